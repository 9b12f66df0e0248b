import PyProof.Rows.All
import Wide.All
import OpenK.AllK
import Wide.FinOn
import KE.KStateDown
import Lean
import HandS.ForMost
import HandS.ForExc
import HandS.Flow
import HandS.IsInst
import HandS.TryMany
import HandS.More
import HandS.Defaults
import HandS.Wide
import HandS.HeadHook1
import HandS.Codes
import HandS.Head0
import HandS.Head1
import HandS.Head2
import HandS.HeadEnd
import HandS.HeadHook2
import HandS.HeadHook3
import HandS.HeadHook4
import KE.KIsAll
import HandS.Style
import HandS.TupLe
import HandS.TupAny
import HandS.TupMul
import HandS.Deep
import HandS.SortInts
import KE.KSortedM
import HandS.DictTup
import KE.SortData
import KE.GoesEnum
import HandS.Iter
import KE.KRevSl
import KE.DatumOrd
import HandS.ExcIs
import HandS.TupSets
import HandS.Conv
import HandS.SetTxt0
import HandS.SetFor
import HandS.Strs
import HandS.HeadWalk
import PySem.Challenge.RW_copyrows_k35_whole_deeds
set_option Elab.async false
set_option linter.all false
set_option maxRecDepth 100000
set_option maxHeartbeats 4000000
set_option autoImplicit false
namespace Mw
open PySem L2
/-- this program's names: its refusals, its class, the class's attributes -/
def xname : Nat → Str
  | 0 => "CopyError" | 1 => "BadDeed" | 2 => "BadThings" | 3 => "BadPaper" | 4 => "BadMessage" | 5 => "BadNumber" | 6 => "NoPlace" | 7 => "Down" | 8 => "NotLeading" | 9 => "TooFew" | 10 => "Behind" | _ => "TooOld"
def cname : Str := "Group"
def fname : Nat → Str
  | 0 => "need" | 1 => "papers" | 2 => "up" | 3 => "leads" | 4 => "told" | 5 => "nexts" | 6 => "wire" | _ => "word"
def exSub (c h : Nat) : Bool := decide (c = h) || decide (h = 0)
/-- the static names -/
structure Sx where
  bl : List Str
  gis : List (Str × Int)
  gss : List (Str × Str)
  xs : List Nat
  cls : Bool
  tabs : List (Str × List (Str × Int))
  ix : Bool
/-- what isinstance of a caught refusal asks of its class -/
def exB (K : PySem.W.Frag) (D : PySem.Addr) : Bool :=
  (PySem.W.findIn K (.ref D) "__getattribute__" == some (some (.builtin "BaseException.__getattribute__"))) && ((PySem.W.findIn K (.ref D) "__getattr__" == some none) && (PySem.W.hasDictIn K D && ((PySem.W.findIn K (.ref D) "__class__" == some (some (.builtin "object.__class__"))) && ((PySem.W.mroIn K D (.type "object") == some true) && (PySem.W.kitOne K (.ref D) (.type "ValueError") == some true)))))
def ixB (K : PySem.W.Frag) (xs : List Nat) : Bool :=
  (PySem.W.specialIn K (.builtin "object.__class__") "__get__" == some (some (.builtin "getset_descriptor.__get__"))) && ((PySem.W.takesIn K (.builtin "object.__class__") == some true) && xs.all fun c => exB K (He.ga K (xname c)))
def faOf (S : Sx) (gl ms : List Str) : List He.Fa :=
  S.bl.map He.Fa.free ++ S.gis.map (fun x => He.Fa.int x.1 x.2) ++ S.gss.map (fun x => He.Fa.str x.1 x.2) ++ S.xs.map (fun c => He.Fa.glo (xname c)) ++ S.xs.map (fun c => He.Fa.exc (xname c)) ++
    S.xs.flatMap (fun c => S.xs.map fun h => He.Fa.exm (xname c) (xname h) (exSub c h)) ++ (if S.cls = true then [He.Fa.cls cname, He.Fa.glo cname, He.Fa.mkr cname] ++ (List.range 8).map (fun f => He.Fa.noat cname (fname f)) else []) ++ gl.map He.Fa.glo ++ ms.map (fun m => He.Fa.meth cname m)
end Mw
namespace HT
open PySem L2 Mw
open PyProof.Rows hiding St
def S : Sx := ⟨["ValueError", "bool", "dict", "enumerate", "int", "isinstance", "len", "range", "set", "sorted", "str", "sum", "tuple"], [("ROUND", 10000)], [("SMALL", "abcdefghijklmnopqrstuvwxyz")], [0, 1, 2], false, [], false⟩
end HT
namespace HT
open PySem PySem.Spec PyProof.Rows L2
def top (i : Nat) : Stmt := PySem.Challenge.pw_copyrows_k35_whole_deeds.main.body.getD i (.Pass ⟨0, 0, 0, 0⟩)
abbrev s_is_within : Stmt := top 7
def d_is_within : He.DefD := ⟨("is_within", none), "is_within", "is_within", defArgs s_is_within, defBody s_is_within, defScope s_is_within, [], []⟩
abbrev s_is_key : Stmt := top 8
def d_is_key : He.DefD := ⟨("is_key", none), "is_key", "is_key", defArgs s_is_key, defBody s_is_key, defScope s_is_key, [], []⟩
abbrev s_is_deed : Stmt := top 9
def d_is_deed : He.DefD := ⟨("is_deed", none), "is_deed", "is_deed", defArgs s_is_deed, defBody s_is_deed, defScope s_is_deed, [], []⟩
abbrev s_are_things : Stmt := top 10
def d_are_things : He.DefD := ⟨("are_things", none), "are_things", "are_things", defArgs s_are_things, defBody s_are_things, defScope s_are_things, [], []⟩
abbrev s_after : Stmt := top 11
def d_after : He.DefD := ⟨("after", none), "after", "after", defArgs s_after, defBody s_after, defScope s_after, [], []⟩
abbrev s_after_all : Stmt := top 12
def d_after_all : He.DefD := ⟨("after_all", none), "after_all", "after_all", defArgs s_after_all, defBody s_after_all, defScope s_after_all, [], []⟩
abbrev s_done : Stmt := top 13
def d_done : He.DefD := ⟨("done", none), "done", "done", defArgs s_done, defBody s_done, defScope s_done, [], []⟩
abbrev s__law_cell : Stmt := top 15
def d__law_cell : He.DefD := ⟨("_law_cell", none), "_law_cell", "_law_cell", defArgs s__law_cell, defBody s__law_cell, defScope s__law_cell, [], []⟩
abbrev s__law_mix : Stmt := top 16
def d__law_mix : He.DefD := ⟨("_law_mix", none), "_law_mix", "_law_mix", defArgs s__law_mix, defBody s__law_mix, defScope s__law_mix, [], []⟩
abbrev s__law_seed : Stmt := top 17
def d__law_seed : He.DefD := ⟨("_law_seed", none), "_law_seed", "_law_seed", defArgs s__law_seed, defBody s__law_seed, defScope s__law_seed, [], []⟩
abbrev s__law_pick : Stmt := top 18
def d__law_pick : He.DefD := ⟨("_law_pick", none), "_law_pick", "_law_pick", defArgs s__law_pick, defBody s__law_pick, defScope s__law_pick, [], []⟩
abbrev s__law_deed : Stmt := top 19
def d__law_deed : He.DefD := ⟨("_law_deed", none), "_law_deed", "_law_deed", defArgs s__law_deed, defBody s__law_deed, defScope s__law_deed, [], []⟩
abbrev s__law_after : Stmt := top 20
def d__law_after : He.DefD := ⟨("_law_after", none), "_law_after", "_law_after", defArgs s__law_after, defBody s__law_after, defScope s__law_after, [], []⟩
abbrev s_law_k35 : Stmt := top 21
def d_law_k35 : He.DefD := ⟨("law", none), "law", "law", defArgs s_law_k35, defBody s_law_k35, defScope s_law_k35, [], []⟩
def fn : List He.DefD := [d_is_within, d_is_key, d_is_deed, d_are_things, d_after, d_after_all, d_done, d__law_cell, d__law_mix, d__law_seed, d__law_pick, d__law_deed, d__law_after, d_law_k35]
def gl : List PySem.Str := ["is_within", "is_key", "is_deed", "are_things", "after", "after_all", "done", "_law_cell", "_law_mix", "_law_seed", "_law_pick", "_law_deed", "_law_after", "law"]
def ms : List PySem.Str := []
def fa : List He.Fa := Mw.faOf S gl ms
def loose : List PySem.Str := ["BadDeed", "BadThings", "CopyError", "ROUND", "SMALL", "_law_after", "_law_cell", "_law_deed", "_law_mix", "_law_pick", "_law_seed", "after", "after_all", "are_things", "done", "is_deed", "is_key", "is_within"]
abbrev R : PySem.W.OpenRow := PySem.W.OpenLaw.row PySem.Challenge.rw_copyrows_k35_whole_deeds
abbrev hk : PySem.W.Hook := He.hookD 4 fa fn
def ob (s : PySem.W.SharedT) : He.AlD := He.obsDG 4 fa fn (HandSHeadRun.getT s)
theorem ob_eq (s : PySem.W.SharedT) : ob s = hk.obs s.abs := He.obsDG_eq (HandSHeadRun.getT_eq s)
theorem run (w : World) : HandSHeadRun.RunEq R (PySem.W.view R.prog [21]) hk ob 60000 loose w := by
  intro os
  kernel_rfl
end HT
namespace Mw
open PySem L2
/-- plain data: tuples are trees, mutable objects are numbers (places in a plain heap); scr: the script; exn: a caught refusal, its class -/
inductive D where
  | non | bl (b : Bool) | int (i : Int) | str (x : Str) | tup (ds : List D) | ref (n : Nat) | scr (ns : List Int) | exn (a : Addr) (c : Nat)
instance : Inhabited D := ⟨.non⟩
/-- plain objects -/
inductive O where
  | lst (ds : List D) | dct (kvs : List (Key × D)) | ins (fs : List (Nat × D))
abbrev Gp := List O
abbrev En := List (Option D)
/-- what comes of an expression -/
inductive R (α : Type) where
  | ok (a : α) (G : Gp) | exc (c : Nat) (G : Gp) | bad
def R.bind {α β : Type} (r : R α) (f : α → Gp → R β) : R β := match r with
  | .ok a G => f a G
  | .exc c G => .exc c G
  | .bad => .bad
/-- what comes of a statement -/
inductive SR where
  | nx (e : En) (G : Gp) | rt (d : D) (G : Gp) | bk (e : En) (G : Gp) | ct (e : En) (G : Gp) | exc (c : Nat) (e : En) (G : Gp) | bad
@[simp] theorem R.bind_ok {α β : Type} {a : α} {G : Gp} {f : α → Gp → R β} : (R.ok a G).bind f = f a G := rfl
@[simp] theorem R.bind_exc {α β : Type} {c : Nat} {G : Gp} {f : α → Gp → R β} : (R.exc (α := α) c G).bind f = .exc c G := rfl
@[simp] theorem R.bind_bad {α β : Type} {f : α → Gp → R β} : (R.bad (α := α)).bind f = .bad := rfl

/-- the script's list, where it is tracked (locked) or written -/
def ScrAt (K : PySem.W.Frag) (H : Hp) (a : Addr) (ns : List Int) : Prop :=
  (∃ o, H a = some (.frz o (.lst (ns.map V.int)))) ∨
    ∃ (o : Obj) (its : Array Value) (n : Nat), K.lookup a = some o ∧ o.cls = .type "list" ∧ o.dict = none ∧ o.data = .seq its n ∧ its.size ≤ sizeLine ∧ Vals (ns.map V.int) its.toList
theorem ScrAt.sq {K : PySem.W.Frag} {H : Hp} {a : Addr} {ns : List Int} (h : ScrAt K H a ns) : SqL K H a (ns.map V.int) := by
  rcases h with ⟨o, h⟩ | h
  · exact .inl (.inr ⟨o, h⟩)
  · exact .inr h
mutual
inductive Den (K : PySem.W.Frag) (p : List Addr) (H : Hp) : V → D → Prop
  | non : Den K p H .non .non
  | bl (b : Bool) : Den K p H (.bl b) (.bl b)
  | int (i : Int) : Den K p H (.int i) (.int i)
  | str (x : Str) : Den K p H (.str x) (.str x)
  | tup {a : Addr} {vs : List V} {ds : List D} : H a = some (.tup vs) → Dens K p H vs ds → Den K p H (.ref a) (.tup ds)
  | ref {a : Addr} {n : Nat} : p[n]? = some a → Den K p H (.ref a) (.ref n)
  | scr {a : Addr} {ns : List Int} : ScrAt K H a ns → Den K p H (.ref a) (.scr ns)
  | exn {a : Addr} {c : Nat} : Den K p H (.ref a) (.exn a c)
inductive Dens (K : PySem.W.Frag) (p : List Addr) (H : Hp) : List V → List D → Prop
  | nil : Dens K p H [] []
  | cons {v : V} {vs : List V} {d : D} {ds : List D} : Den K p H v d → Dens K p H vs ds → Dens K p H (v :: vs) (d :: ds)
end
def Imm : HO → Prop
  | .tup _ => True
  | .frz _ _ => True
  | _ => False
/-- tuples and locked things stay -/
def Tu (H H' : Hp) : Prop := ∀ a o, H a = some o → Imm o → H' a = some o
theorem Tu.refl (H : Hp) : Tu H H := fun _ _ h _ => h
theorem Tu.trans {H H1 H2 : Hp} (a : Tu H H1) (b : Tu H1 H2) : Tu H H2 := fun x o h i => b x o (a x o h i) i
theorem Tu.new {H : Hp} {p : Addr} {o : HO} (h : H p = none) : Tu H (upd H p o) := fun a u e _ => by
  rw [upd_ne (ne_of_none e h)]
  exact e
theorem Tu.set {H : Hp} {p : Addr} {o u : HO} (h : H p = some u) (n : ¬ Imm u) : Tu H (upd H p o) := fun a v e i => by
  have ne : a ≠ p := by
    intro z
    subst z
    rw [h] at e
    cases e
    exact n i
  rw [upd_ne ne]
  exact e
theorem pre_get {p q : List Addr} (h : p <+: q) {n : Nat} {a : Addr} (e : p[n]? = some a) : q[n]? = some a := by
  obtain ⟨t, rfl⟩ := h
  rw [List.getElem?_append_left (List.getElem?_eq_some_iff.mp e).1]
  exact e
theorem pre_app (p : List Addr) (a : Addr) : p <+: p ++ [a] := ⟨[a], rfl⟩
section
variable {K : PySem.W.Frag} {p q : List Addr} {H H' : Hp}
theorem ScrAt.mono {a : Addr} {ns : List Int} (t : Tu H H') (h : ScrAt K H a ns) : ScrAt K H' a ns := by
  rcases h with ⟨o, h⟩ | h
  · exact .inl ⟨o, t a _ h trivial⟩
  · exact .inr h
mutual
theorem Den.mono (t : Tu H H') (pr : p <+: q) : ∀ {v : V} {d : D}, Den K p H v d → Den K q H' v d
  | _, _, .non => .non
  | _, _, .bl b => .bl b
  | _, _, .int i => .int i
  | _, _, .str x => .str x
  | _, _, .tup h hs => .tup (t _ _ h trivial) (Dens.mono t pr hs)
  | _, _, .ref h => .ref (pre_get pr h)
  | _, _, .scr h => .scr (h.mono t)
  | _, _, .exn => .exn
theorem Dens.mono (t : Tu H H') (pr : p <+: q) : ∀ {vs : List V} {ds : List D}, Dens K p H vs ds → Dens K q H' vs ds
  | _, _, .nil => .nil
  | _, _, .cons h hs => .cons (Den.mono t pr h) (Dens.mono t pr hs)
end
theorem Dens.length : ∀ {vs : List V} {ds : List D}, Dens K p H vs ds → vs.length = ds.length
  | _, _, .nil => rfl
  | _, _, .cons _ hs => by rw [List.length_cons, List.length_cons, Dens.length hs]
theorem Dens.get : ∀ {vs : List V} {ds : List D} {i : Nat} {d : D}, Dens K p H vs ds → ds[i]? = some d → ∃ v, vs[i]? = some v ∧ Den K p H v d
  | _, _, _, _, .nil, e => by simp at e
  | _, _, 0, _, .cons h _, e => by
    simp at e
    subst e
    exact ⟨_, rfl, h⟩
  | _, _, i + 1, d, .cons _ hs, e => by
    obtain ⟨v, h1, h2⟩ := Dens.get (i := i) hs (by simpa using e)
    exact ⟨v, by simpa using h1, h2⟩
theorem Dens.getV : ∀ {vs : List V} {ds : List D} {i : Nat} {v : V}, Dens K p H vs ds → vs[i]? = some v → ∃ d, ds[i]? = some d ∧ Den K p H v d
  | _, _, _, _, .nil, e => by simp at e
  | _, _, 0, _, .cons h _, e => by
    simp at e
    subst e
    exact ⟨_, rfl, h⟩
  | _, _, i + 1, d, .cons _ hs, e => by
    obtain ⟨v, h1, h2⟩ := Dens.getV (i := i) hs (by simpa using e)
    exact ⟨v, by simpa using h1, h2⟩
theorem Dens.append : ∀ {vs ws : List V} {ds es : List D}, Dens K p H vs ds → Dens K p H ws es → Dens K p H (vs ++ ws) (ds ++ es)
  | _, _, _, _, .nil, h => h
  | _, _, _, _, .cons h hs, r => .cons h (Dens.append hs r)
theorem Dens.take : ∀ {vs : List V} {ds : List D} (n : Nat), Dens K p H vs ds → Dens K p H (vs.take n) (ds.take n)
  | _, _, 0, _ => .nil
  | _, _, _ + 1, .nil => .nil
  | _, _, n + 1, .cons h hs => .cons h (Dens.take n hs)
theorem Dens.drop : ∀ {vs : List V} {ds : List D} (n : Nat), Dens K p H vs ds → Dens K p H (vs.drop n) (ds.drop n)
  | _, _, 0, h => h
  | _, _, _ + 1, .nil => .nil
  | _, _, n + 1, .cons _ hs => Dens.drop n hs
theorem Dens.set {v : V} {d : D} (h : Den K p H v d) : ∀ {vs : List V} {ds : List D} (n : Nat), Dens K p H vs ds → Dens K p H (vs.set n v) (ds.set n d)
  | _, _, _, .nil => .nil
  | _, _, 0, .cons _ hs => .cons h hs
  | _, _, n + 1, .cons g hs => .cons g (Dens.set h n hs)
theorem Dens.reverse {vs : List V} {ds : List D} (h : Dens K p H vs ds) : Dens K p H vs.reverse ds.reverse := by
  induction ds generalizing vs with
  | nil => cases h; exact .nil
  | cons d ds ih =>
    cases h with
    | cons h1 h2 =>
      rw [List.reverse_cons, List.reverse_cons]
      exact (ih h2).append (.cons h1 .nil)
end
/-- pairs of a dict, fields of an instance -/
inductive KVs (K : PySem.W.Frag) (p : List Addr) (H : Hp) : List (Key × V) → List (Key × D) → Prop
  | nil : KVs K p H [] []
  | cons {k : Key} {v : V} {d : D} {vs : List (Key × V)} {ds : List (Key × D)} : Den K p H v d → KVs K p H vs ds → KVs K p H ((k, v) :: vs) ((k, d) :: ds)
inductive FVs (K : PySem.W.Frag) (p : List Addr) (H : Hp) : List (Str × V) → List (Nat × D) → Prop
  | nil : FVs K p H [] []
  | cons {k : Nat} {v : V} {d : D} {vs : List (Str × V)} {ds : List (Nat × D)} : k < 8 → Den K p H v d → FVs K p H vs ds → FVs K p H ((fname k, v) :: vs) ((k, d) :: ds)
section
variable {K : PySem.W.Frag} {p q : List Addr} {H H' : Hp}
theorem KVs.mono (t : Tu H H') (pr : p <+: q) : ∀ {vs : List (Key × V)} {ds : List (Key × D)}, KVs K p H vs ds → KVs K q H' vs ds
  | _, _, .nil => .nil
  | _, _, .cons h hs => .cons (h.mono t pr) (KVs.mono t pr hs)
theorem FVs.mono (t : Tu H H') (pr : p <+: q) : ∀ {vs : List (Str × V)} {ds : List (Nat × D)}, FVs K p H vs ds → FVs K q H' vs ds
  | _, _, .nil => .nil
  | _, _, .cons l h hs => .cons l (h.mono t pr) (FVs.mono t pr hs)
end
/-- a plain object stands at a -/
def ObR (K : PySem.W.Frag) (p : List Addr) (H : Hp) (a : Addr) : O → Prop
  | .lst ds => ∃ vs, H a = some (.lst vs) ∧ Dens K p H vs ds
  | .dct kvs => ∃ ws, H a = some (.dK ws) ∧ KVs K p H ws kvs
  | .ins fs => ∃ dx gs, H a = some (.ins (He.ga K cname) dx gs) ∧ FVs K p H gs fs
structure Rel (K : PySem.W.Frag) (p : List Addr) (G : Gp) (H : Hp) : Prop where
  len : p.length = G.length
  nd : p.Nodup
  ob : ∀ (n : Nat) (a : Addr) (o : O), p[n]? = some a → G[n]? = some o → ObR K p H a o
section
variable {K : PySem.W.Frag} {p q : List Addr} {H H' : Hp} {G : Gp}
theorem ObR.there {a : Addr} {o : O} (h : ObR K p H a o) : ∃ u, H a = some u ∧ ¬ Imm u := by
  cases o with
  | lst ds => obtain ⟨vs, h, _⟩ := h; exact ⟨_, h, id⟩
  | dct ds => obtain ⟨vs, h, _⟩ := h; exact ⟨_, h, id⟩
  | ins fs => obtain ⟨dx, gs, h, _⟩ := h; exact ⟨_, h, id⟩
theorem ObR.mono {a : Addr} {o : O} (t : Tu H H') (pr : p <+: q) (e : H' a = H a) (h : ObR K p H a o) : ObR K q H' a o := by
  cases o with
  | lst ds => obtain ⟨vs, h, d⟩ := h; exact ⟨vs, e.trans h, d.mono t pr⟩
  | dct ds => obtain ⟨vs, h, d⟩ := h; exact ⟨vs, e.trans h, d.mono t pr⟩
  | ins fs => obtain ⟨dx, gs, h, d⟩ := h; exact ⟨dx, gs, e.trans h, d.mono t pr⟩
theorem Rel.get (r : Rel K p G H) {n : Nat} {a : Addr} (e : p[n]? = some a) : ∃ o, G[n]? = some o ∧ ObR K p H a o := by
  have h1 : n < G.length := by rw [← r.len]; exact (List.getElem?_eq_some_iff.mp e).1
  exact ⟨G[n], List.getElem?_eq_getElem h1, r.ob n a _ e (List.getElem?_eq_getElem h1)⟩
theorem Rel.fresh (r : Rel K p G H) {b : Addr} (hb : H b = none) : b ∉ p := fun hm => by
  obtain ⟨n, hn⟩ := List.getElem?_of_mem hm
  obtain ⟨o, _, h⟩ := r.get hn
  obtain ⟨u, h, _⟩ := h.there
  rw [hb] at h
  cases h
/-- all else stays as it is; nothing tracked of ours changes -/
theorem Rel.keep (r : Rel K p G H) (t : Tu H H') (k : ∀ a ∈ p, H' a = H a) : Rel K p G H' :=
  ⟨r.len, r.nd, fun n a o e g => (r.ob n a o e g).mono t (List.prefix_refl p) (k a (List.mem_of_getElem? e))⟩
theorem Rel.tup (r : Rel K p G H) {b : Addr} {o : HO} (hb : H b = none) : Rel K p G (upd H b o) :=
  r.keep (Tu.new hb) fun a ha => upd_ne fun z => r.fresh hb (z ▸ ha)
theorem Rel.new (r : Rel K p G H) {b : Addr} {ho : HO} {o : O} (hb : H b = none) (h : ObR K (p ++ [b]) (upd H b ho) b o) : Rel K (p ++ [b]) (G ++ [o]) (upd H b ho) := by
  refine ⟨by rw [List.length_append, List.length_append, r.len]; rfl, ?_, fun n a u e g => ?_⟩
  · rw [List.nodup_append]
    refine ⟨r.nd, by simp, fun x hx y hy => ?_⟩
    rw [List.mem_singleton] at hy
    subst hy
    intro z
    subst z
    exact r.fresh hb hx
  · by_cases hn : n < p.length
    · rw [List.getElem?_append_left hn] at e
      rw [List.getElem?_append_left (by rw [← r.len]; exact hn)] at g
      exact (r.ob n a u e g).mono (Tu.new hb) (pre_app p b) (upd_ne fun z => r.fresh hb (z ▸ List.mem_of_getElem? e))
    · have h1 : n < (p ++ [b]).length := (List.getElem?_eq_some_iff.mp e).1
      have h2 : n = p.length := by rw [List.length_append, List.length_singleton] at h1; omega
      subst h2
      rw [List.getElem?_append_right (Nat.le_refl _), Nat.sub_self] at e
      rw [List.getElem?_append_right (by rw [r.len]; exact Nat.le_refl _), show p.length - G.length = 0 by rw [r.len]; exact Nat.sub_self _] at g
      simp at e g
      subst e g
      exact h
theorem Rel.set (r : Rel K p G H) {b : Addr} {ho u : HO} {o : O} {n : Nat} (hn : p[n]? = some b) (hb : H b = some u) (hi : ¬ Imm u) (h : ObR K p (upd H b ho) b o) : Rel K p (G.set n o) (upd H b ho) := by
  refine ⟨by rw [List.length_set]; exact r.len, r.nd, fun m a w e g => ?_⟩
  by_cases hm : m = n
  · subst hm
    rw [hn] at e
    cases e
    have hl : m < G.length := by rw [← r.len]; exact (List.getElem?_eq_some_iff.mp hn).1
    rw [List.getElem?_set_self hl] at g
    cases g
    exact h
  · rw [List.getElem?_set_ne (Ne.symm hm)] at g
    refine (r.ob m a w e g).mono (Tu.set hb hi) (List.prefix_refl p) (upd_ne fun z => ?_)
    subst z
    exact hm (by
      obtain ⟨h1, e1⟩ := List.getElem?_eq_some_iff.mp e
      obtain ⟨h2, e2⟩ := List.getElem?_eq_some_iff.mp hn
      exact (List.getElem_inj r.nd).mp (e1.trans e2.symm))
end
section
variable {α β γ δ : Type}
/-- what is wanted of a result -/
def Co (K : PySem.W.Frag) (W : WX) (σ : St) (p : List Addr) (H : Hp) (rel : List Addr → Hp → β → α → Prop) (r : R α) (Q : β → Hp → Prop) : Prop := match r with
  | .ok d G => ∀ q H' v, p <+: q → Tu H H' → Rel K q G H' → rel q H' v d → Q v H'
  | .exc c G => ∀ q H', p <+: q → Tu H H' → Rel K q G H' → W (.ref (He.ga K (xname c))) none σ H'
  | .bad => False
variable {K : PySem.W.Frag} {W : WX} {σ : St} {p q : List Addr} {H H' : Hp} {rel : List Addr → Hp → β → α → Prop} {rel2 : List Addr → Hp → δ → γ → Prop}
theorem Co.later {r : R α} {Q : β → Hp → Prop} (h : Co K W σ p H rel r Q) (pr : p <+: q) (t : Tu H H') : Co K W σ q H' rel r Q := by
  cases r with
  | ok d G => exact fun q2 H2 v p2 t2 => h q2 H2 v (pr.trans p2) (t.trans t2)
  | exc c G => exact fun q2 H2 p2 t2 => h q2 H2 (pr.trans p2) (t.trans t2)
  | bad => exact h
theorem Co.bind {r : R α} {f : α → Gp → R γ} {Q : δ → Hp → Prop} {P : β → Hp → Prop} (h : Co K W σ p H rel2 (r.bind f) Q)
    (k : ∀ d G1 q H1 v, p <+: q → Tu H H1 → Rel K q G1 H1 → rel q H1 v d → Co K W σ q H1 rel2 (f d G1) Q → P v H1) : Co K W σ p H rel r P := by
  cases r with
  | ok d G => exact fun q H1 v pr t rl rv => k d G q H1 v pr t rl rv (Co.later (r := f d G) h pr t)
  | exc c G => exact h
  | bad => exact h
theorem Co.here {d : α} {G : Gp} {v : β} {Q : β → Hp → Prop} (h : Co K W σ p H rel (.ok d G) Q) (rl : Rel K p G H) (rv : rel p H v d) : Q v H := h p H v (List.prefix_refl p) (Tu.refl H) rl rv
end
def Envs (K : PySem.W.Frag) (p : List Addr) (H : Hp) (σ : St) (e : En) : Prop := e.length = σ.length ∧ ∀ (i : Nat) (d : D), e[i]? = some (some d) → ∃ v, σ[i]? = some (some v) ∧ Den K p H v d
section
variable {K : PySem.W.Frag} {p q : List Addr} {H H' : Hp} {σ : St} {e : En}
theorem Envs.mono (t : Tu H H') (pr : p <+: q) (h : Envs K p H σ e) : Envs K q H' σ e := ⟨h.1, fun i d g => by
  obtain ⟨v, h1, h2⟩ := h.2 i d g
  exact ⟨v, h1, h2.mono t pr⟩⟩
theorem Envs.set {v : V} {d : D} {i : Nat} (h : Envs K p H σ e) (hd : Den K p H v d) : Envs K p H (σ.set i (some v)) (e.set i (some d)) := by
  refine ⟨by rw [List.length_set, List.length_set]; exact h.1, fun j d' g => ?_⟩
  by_cases hj : j = i
  · subst hj
    have hl : j < e.length := by
      have := (List.getElem?_eq_some_iff.mp g).1
      rwa [List.length_set] at this
    rw [List.getElem?_set_self hl] at g
    cases g
    exact ⟨v, List.getElem?_set_self (by rw [← h.1]; exact hl), hd⟩
  · rw [List.getElem?_set_ne (Ne.symm hj)] at g ⊢
    exact h.2 j d' g
theorem Envs.forget {i : Nat} {w : Option V} (h : Envs K p H σ e) : Envs K p H (σ.set i w) (e.set i none) := by
  refine ⟨by rw [List.length_set, List.length_set]; exact h.1, fun j d' g => ?_⟩
  by_cases hj : j = i
  · subst hj
    have hl : j < e.length := by
      have := (List.getElem?_eq_some_iff.mp g).1
      rwa [List.length_set] at this
    rw [List.getElem?_set_self hl] at g
    cases g
  · rw [List.getElem?_set_ne (Ne.symm hj)] at g ⊢
    exact h.2 j d' g
end
def tE (K : PySem.W.Frag) (W : WX) (m : En → Gp → R D) : TE := fun σ H Q => ∃ p G e, Rel K p G H ∧ Envs K p H σ e ∧ Co K W σ p H (Den K) (m e G) Q
def tT (K : PySem.W.Frag) (W : WX) (m : En → Gp → R Bool) : TT := fun σ H Q => ∃ p G e, Rel K p G H ∧ Envs K p H σ e ∧ Co K W σ p H (fun _ _ b c => b = c) (m e G) Q
def tA (K : PySem.W.Frag) (W : WX) (m : En → Gp → R (List D)) : TA := fun σ H Q => ∃ p G e, Rel K p G H ∧ Envs K p H σ e ∧ Co K W σ p H (Dens K) (m e G) Q
def tS (K : PySem.W.Frag) (W : WX) (m : En → Gp → SR) : TS := fun D σ H => ∃ p G e, Rel K p G H ∧ Envs K p H σ e ∧ match m e G with
  | .nx e' G' => ∀ q σ' H', p <+: q → Tu H H' → Rel K q G' H' → Envs K q H' σ' e' → D.nx σ' H'
  | .rt d G' => ∀ q H' v, p <+: q → Tu H H' → Rel K q G' H' → Den K q H' v d → D.rt v H'
  | .bk e' G' => ∀ q σ' H', p <+: q → Tu H H' → Rel K q G' H' → Envs K q H' σ' e' → D.bk σ' H'
  | .ct e' G' => ∀ q σ' H', p <+: q → Tu H H' → Rel K q G' H' → Envs K q H' σ' e' → D.ct σ' H'
  | .exc c e' G' => ∀ q σ' H', p <+: q → Tu H H' → Rel K q G' H' → Envs K q H' σ' e' → W (.ref (He.ga K (xname c))) none σ' H'
  | .bad => False
def SE (X : Cx) (W : WX) (e : Expr) (m : En → Gp → R D) : Prop := PE X e (tE X.K W m)
def ST (X : Cx) (W : WX) (e : Expr) (m : En → Gp → R Bool) : Prop := PT X e (tT X.K W m)
def SA (X : Cx) (W : WX) (es : List Expr) (m : En → Gp → R (List D)) : Prop := PA X es (tA X.K W m)
def SS (X : Cx) (W : WX) (st : Stmt) (m : En → Gp → SR) : Prop := PS X st (tS X.K W m)
def SB (X : Cx) (W : WX) (b : List Stmt) (m : En → Gp → SR) : Prop := PSs X b (tS X.K W m)
theorem pe_imp {X : Cx} {e : Expr} {t t' : TE} (h : PE X e t) (k : ∀ σ H Q, t' σ H Q → t σ H Q) : PE X e t' := ⟨fun pins s σ H Q I q => h.run pins s σ H Q I (k σ H Q q)⟩
theorem pt_imp {X : Cx} {e : Expr} {t t' : TT} (h : PT X e t) (k : ∀ σ H Q, t' σ H Q → t σ H Q) : PT X e t' := ⟨fun pins s σ H Q I q => h.run pins s σ H Q I (k σ H Q q)⟩
theorem pw_imp {X : Cx} {e : Expr} {t t' : TT} (h : PW X e t) (k : ∀ σ H Q, t' σ H Q → t σ H Q) : PW X e t' := ⟨fun wh pins s σ H Q I q => h.run wh pins s σ H Q I (k σ H Q q)⟩
theorem pa_imp {X : Cx} {e : List Expr} {t t' : TA} (h : PA X e t) (k : ∀ σ H Q, t' σ H Q → t σ H Q) : PA X e t' := ⟨fun pos pins s σ H Q I q => h.run pos pins s σ H Q I (k σ H Q q)⟩
theorem ps_imp {X : Cx} {e : Stmt} {t t' : TS} (h : PS X e t) (k : ∀ D σ H, t' D σ H → t D σ H) : PS X e t' := ⟨fun pins s σ H D I q => h.run pins s σ H D I (k D σ H q)⟩
theorem pss_imp {X : Cx} {e : List Stmt} {t t' : TS} (h : PSs X e t) (k : ∀ D σ H, t' D σ H → t D σ H) : PSs X e t' := ⟨fun pins s σ H D I q => h.run pins s σ H D I (k D σ H q)⟩
end Mw
namespace Mw
open PySem L2
def big : Nat := 100000
theorem big_line {n : Nat} (h : n ≤ big) : n ≤ sizeLine := Nat.le_trans h (by decide)
theorem big_lt {n : Nat} (h : n < big) : n < sizeLine := Nat.lt_of_lt_of_le h (by decide)
def dAdd : D → D → Gp → R D
  | .int i, .int j, G => .ok (.int (i + j)) G
  | .tup xs, .tup ys, G => if xs.length + ys.length ≤ big then .ok (.tup (xs ++ ys)) G else .bad
  | .ref n, .ref m, G => (match G[n]?, G[m]? with
    | some (.lst xs), some (.lst ys) => if xs.length + ys.length ≤ big then .ok (.ref G.length) (G ++ [.lst (xs ++ ys)]) else .bad
    | _, _ => .bad)
  | _, _, _ => .bad
def dSub : D → D → Gp → R D
  | .int i, .int j, G => .ok (.int (i - j)) G
  | _, _, _ => .bad
def dMul : D → D → Gp → R D
  | .int i, .int j, G => if (-(2 ^ 64) < j ∧ j < 2 ^ 64) ∨ (-(2 ^ 64) < i ∧ i < 2 ^ 64) then .ok (.int (i * j)) G else .bad
  | .tup xs, .int k, G => if xs ≠ [] ∧ 2 ≤ k ∧ k ≤ 1000 ∧ xs.length ≤ 1000 then .ok (.tup (List.replicate k.toNat xs).flatten) G else .bad
  | _, _, _ => .bad
def dMod : D → D → Gp → R D
  | .int i, .int j, G => if 0 < j then .ok (.int (i % j)) G else .bad
  | _, _, _ => .bad
def dDiv : D → D → Gp → R D
  | .int i, .int j, G => if 0 < j ∧ j < 1073741824 then .ok (.int (i / j)) G else .bad
  | _, _, _ => .bad
def dPow : D → D → Gp → R D
  | .int i, .int j, G => if 0 ≤ j ∧ j ≤ 1000000 ∧ i.natAbs < 2 ^ 64 then .ok (.int (i ^ j.toNat)) G else .bad
  | _, _, _ => .bad
def py (G : Gp) : Nat → D → Option PyData
  | _, .non => some .none
  | _, .bl b => some (.bool b)
  | _, .int i => some (.int i)
  | _, .str x => if PyData.strOk x = true then some (.str x) else none
  | _, .exn _ _ => none
  | 0, .tup _ => none
  | 0, .ref _ => none
  | 0, .scr _ => none
  | n + 1, .tup ds => (ds.mapM (py G n)).map .tuple
  | n + 1, .ref r => (match G[r]? with
    | some (.lst ds) => (ds.mapM (py G n)).map .list
    | _ => none)
  | _ + 1, .scr ns => some (.list (ns.map .int))
def dEq (a b : D) (G : Gp) : R Bool := match py G 20 a, py G 20 b with
  | some x, some y => .ok (PyData.eqv x y) G
  | _, _ => .bad
def ints? : List D → Option (List Int)
  | [] => some []
  | .int i :: r => (ints? r).map (i :: ·)
  | _ :: _ => none
def ltPair (a b c d : Int) : Bool := decide (a < c) || (decide (a = c) && decide (b < d))
def dLt : D → D → Gp → R Bool
  | .int i, .int j, G => .ok (decide (i < j)) G
  | .tup [.int a, .int b], .tup [.int c, .int d], G => .ok (ltPair a b c d) G
  | .str x, .str y, G => .ok (decide (x.cps.toList < y.cps.toList)) G
  | _, _, _ => .bad
def dLe : D → D → Gp → R Bool
  | .int i, .int j, G => .ok (decide (i ≤ j)) G
  | .str x, .str y, G => .ok (!decide (y.cps.toList < x.cps.toList)) G
  | _, _, _ => .bad
def flatD : D → Bool
  | .non => true
  | .bl _ => true
  | .int _ => true
  | .str _ => true
  | _ => false
def keyD : D → Option Key
  | .int i => some (.inl i)
  | .str x => some (.inr x)
  | _ => none
def getK (kvs : List (Key × D)) (k : Key) : Option D := (kvs.find? fun kv => decide (kv.1 = k)).map (·.2)
def dIn (x : D) (y : D) (G : Gp) : R Bool := match y with
  | .str z => (match x with
    | .str ⟨⟨[c]⟩⟩ => .ok (decide (c ∈ z.cps.toList)) G
    | _ => .bad)
  | .tup ds => (match py G 20 x, ds.mapM (py G 20) with
    | some a, some bs => if flatD x && ds.all flatD then .ok (bs.any fun z => PyData.eqv z a) G else .ok (bs.any fun z => PyData.eqv z a) G
    | _, _ => .bad)
  | .ref n => (match G[n]? with
    | some (.lst ds) => (match py G 20 x, ds.mapM (py G 20) with
      | some a, some bs => .ok (bs.any fun z => PyData.eqv z a) G
      | _, _ => .bad)
    | some (.dct kvs) => (match keyD x with
      | some k => .ok (getK kvs k).isSome G
      | none => .bad)
    | _ => .bad)
  | _ => .bad
def dIx (x : D) (y : D) (G : Gp) : R D := match x with
  | .tup ds => (match y with
    | .int i => (match atI ds i with
      | some d => .ok d G
      | none => .bad)
    | _ => .bad)
  | .scr ns => (match y with
    | .int i => (match atI ns i with
      | some d => .ok (.int d) G
      | none => .bad)
    | _ => .bad)
  | .ref n => (match G[n]? with
    | some (.lst ds) => (match y with
      | .int i => (match atI ds i with
        | some d => .ok d G
        | none => .bad)
      | _ => .bad)
    | some (.dct kvs) => (match keyD y with
      | some k => (match getK kvs k with
        | some d => .ok d G
        | none => .bad)
      | none => .bad)
    | _ => .bad)
  | _ => .bad
def cutD (ds : List D) (lo hi : Option Int) : List D := (ds.drop (HT.sIx ds.length 0 lo)).take (HT.sIx ds.length ds.length hi - HT.sIx ds.length 0 lo)
def dSl (x : D) (lo hi : Option Int) (G : Gp) : R D := match x with
  | .tup ds => .ok (.tup (cutD ds lo hi)) G
  | .ref n => (match G[n]? with
    | some (.lst ds) => .ok (.ref G.length) (G ++ [.lst (cutD ds lo hi)])
    | _ => .bad)
  | _ => .bad
def dTru (x : D) (G : Gp) : R Bool := match x with
  | .non => .ok false G
  | .bl b => .ok b G
  | .int i => .ok (i != 0) G
  | .str x => if x.length ≤ big then .ok ((x.length : Int) != 0) G else .bad
  | .tup ds => .ok (!ds.isEmpty) G
  | .scr ns => .ok (!ns.isEmpty) G
  | .exn _ _ => .bad
  | .ref n => (match G[n]? with
    | some (.lst ds) => .ok (!ds.isEmpty) G
    | some (.dct kvs) => .ok (!kvs.isEmpty) G
    | _ => .bad)
def dLen (x : D) (G : Gp) : R D := match x with
  | .str x => if x.length ≤ big then .ok (.int x.length) G else .bad
  | .tup ds => .ok (.int ds.length) G
  | .scr ns => .ok (.int ns.length) G
  | .ref n => (match G[n]? with
    | some (.lst ds) => .ok (.int ds.length) G
    | some (.dct kvs) => .ok (.int kvs.length) G
    | _ => .bad)
  | _ => .bad
inductive Ty where
  | int | bool | str | tuple | list
def Ty.nm : Ty → String
  | .int => "int" | .bool => "bool" | .str => "str" | .tuple => "tuple" | .list => "list"
def Ty.isInt : Ty → Bool
  | .int => true
  | _ => false
def Ty.isBl : Ty → Bool
  | .bool => true
  | .int => true
  | _ => false
def Ty.isStr : Ty → Bool
  | .str => true
  | _ => false
def Ty.isTup : Ty → Bool
  | .tuple => true
  | _ => false
def Ty.isLst : Ty → Bool
  | .list => true
  | _ => false
def dIsi (x : D) (t : Ty) (G : Gp) : R Bool := match x with
  | .non => .ok false G
  | .bl _ => .ok t.isBl G
  | .int _ => .ok t.isInt G
  | .str _ => .ok t.isStr G
  | .tup _ => .ok t.isTup G
  | .scr _ => .bad
  | .exn _ _ => .bad
  | .ref n => (match G[n]? with
    | some (.lst _) => .ok t.isLst G
    | some (.dct _) => .ok false G
    | _ => .bad)

section
variable {X : Cx} {K : PySem.W.Frag} {W : WX} {σ : St} {p q : List Addr} {H H' : Hp} {G : Gp} {v u : V} {x y : D}
/-- an operation by values does a plain one -/
def OpM (K : PySem.W.Frag) (r : R2) (f : D → D → Gp → R D) : Prop := ∀ (W : WX) (σ : St) (p : List Addr) (G : Gp) (H : Hp) (v u : V) (x y : D) (Q : VK), Rel K p G H → Den K p H v x → Den K p H u y → Co K W σ p H (Den K) (f x y G) Q → r v u H Q
theorem inv_int {i : Int} (h : Den K p H v (.int i)) : v = .int i := by cases h; rfl
theorem inv_str {i : Str} (h : Den K p H v (.str i)) : v = .str i := by cases h; rfl
theorem inv_bl {i : Bool} (h : Den K p H v (.bl i)) : v = .bl i := by cases h; rfl
theorem inv_tup {ds : List D} (h : Den K p H v (.tup ds)) : ∃ a vs, v = .ref a ∧ H a = some (.tup vs) ∧ Dens K p H vs ds := by cases h with | tup a b => exact ⟨_, _, rfl, a, b⟩
theorem inv_ref {n : Nat} (h : Den K p H v (.ref n)) : ∃ a, v = .ref a ∧ p[n]? = some a := by cases h with | ref a => exact ⟨_, rfl, a⟩
theorem inv_scr {ns : List Int} (h : Den K p H v (.scr ns)) : ∃ a, v = .ref a ∧ ScrAt K H a ns := by cases h with | scr a => exact ⟨_, rfl, a⟩
theorem Rel.lst (r : Rel K p G H) {n : Nat} {a : Addr} {ds : List D} (e : p[n]? = some a) (g : G[n]? = some (.lst ds)) : ∃ vs, H a = some (.lst vs) ∧ Dens K p H vs ds := r.ob n a _ e g
theorem Rel.dct (r : Rel K p G H) {n : Nat} {a : Addr} {ds : List (Key × D)} (e : p[n]? = some a) (g : G[n]? = some (.dct ds)) : ∃ vs, H a = some (.dK vs) ∧ KVs K p H vs ds := r.ob n a _ e g
theorem co_bad {α β : Type} {rel : List Addr → Hp → β → α → Prop} {Q : β → Hp → Prop} {P : Prop} (h : Co K W σ p H rel (.bad : R α) Q) : P := False.elim h
/-- a new list -/
theorem co_new {Q : VK} {b : Addr} {vs : List V} {ds : List D} (r : Rel K p G H) (hb : H b = none) (hd : Dens K p H vs ds) (h : Co K W σ p H (Den K) (.ok (.ref G.length) (G ++ [.lst ds])) Q) : Q (.ref b) (upd H b (.lst vs)) :=
  h (p ++ [b]) _ (.ref b) (pre_app p b) (Tu.new hb) (r.new hb ⟨vs, upd_same, hd.mono (Tu.new hb) (pre_app p b)⟩) (.ref (by rw [← r.len, List.getElem?_append_right (Nat.le_refl _), Nat.sub_self]; rfl))
/-- a new tuple -/
theorem co_tup {Q : VK} {b : Addr} {vs : List V} {ds : List D} (r : Rel K p G H) (hb : H b = none) (hd : Dens K p H vs ds) (h : Co K W σ p H (Den K) (.ok (.tup ds) G) Q) : Q (.ref b) (upd H b (.tup vs)) :=
  h p _ (.ref b) (List.prefix_refl p) (Tu.new hb) (r.tup hb) (.tup upd_same (hd.mono (Tu.new hb) (List.prefix_refl p)))
theorem om_add : OpM K (fun x y H Q => (rI0 (fun i j => .int (i + j)) x y H Q ∨ rCatA K x y H Q) ∨ rCat x y H Q) dAdd := by
  intro W σ p G H v u x y Q r hv hu h
  unfold dAdd at h
  split at h
  · rename_i i j
    cases inv_int hv
    cases inv_int hu
    exact .inl (.inl ⟨i, j, rfl, rfl, h.here r (.int _)⟩)
  · rename_i xs ys
    split at h
    · rename_i hl
      obtain ⟨a, vs, rfl, ha, hxs⟩ := inv_tup hv
      obtain ⟨b, us, rfl, hb, hys⟩ := inv_tup hu
      have l1 := hxs.length
      have l2 := hys.length
      refine .inl (.inr ⟨a, b, vs, us, rfl, rfl, .inl (.inl ha), .inl (.inl hb), big_line (by omega), fun e => ?_, fun e1 e2 => ?_, fun e1 e2 b hb => ?_⟩)
      · subst e
        cases hxs
        exact h.here r hu
      · subst e2
        cases hys
        rw [List.append_nil] at h
        exact h.here r hv
      · exact co_tup r hb (hxs.append hys) h
    · exact co_bad h
  · rename_i n m
    split at h
    · rename_i xs ys g1 g2
      split at h
      · obtain ⟨a, rfl, ha⟩ := inv_ref hv
        obtain ⟨b, rfl, hb⟩ := inv_ref hu
        obtain ⟨vs, h1, d1⟩ := r.lst ha g1
        obtain ⟨us, h2, d2⟩ := r.lst hb g2
        have l1 := d1.length
        have l2 := d2.length
        exact .inr ⟨a, b, vs, us, rfl, rfl, h1, h2, big_line (by omega), fun c hc => co_new r hc (d1.append d2) h⟩
      · exact co_bad h
    · exact co_bad h
  · exact co_bad h
theorem om_sub : OpM K (rI0 fun i j => .int (i - j)) dSub := by
  intro W σ p G H v u x y Q r hv hu h
  unfold dSub at h
  split at h
  · rename_i i j
    cases inv_int hv
    cases inv_int hu
    exact ⟨i, j, rfl, rfl, h.here r (.int _)⟩
  · exact co_bad h
theorem om_mul : OpM K (fun x y H Q => rI CMul (fun i j => .int (i * j)) x y H Q ∨ rRepT K x y H Q) dMul := by
  intro W σ p G H v u x y Q r hv hu h
  unfold dMul at h
  split at h
  · rename_i i j
    cases inv_int hv
    cases inv_int hu
    split at h
    · rename_i hc
      exact .inl ⟨i, j, rfl, rfl, hc.symm, h.here r (.int _)⟩
    · exact co_bad h
  · rename_i xs k
    split at h
    · rename_i hc
      obtain ⟨a, vs, rfl, ha, hxs⟩ := inv_tup hv
      cases inv_int hu
      have l1 := hxs.length
      have fl : ∀ n : Nat, Dens K p H (List.replicate n vs).flatten (List.replicate n xs).flatten := fun n => by
        induction n with
        | zero => exact .nil
        | succ n ih =>
          rw [List.replicate_succ, List.replicate_succ, List.flatten_cons, List.flatten_cons]
          exact hxs.append ih
      refine .inr ⟨a, k, vs, rfl, rfl, .inl (.inl ha), fun e => ?_, hc.2.1, hc.2.2.1, by omega, fun b hb => co_tup r hb (fl _) h⟩
      subst e
      exact hc.1 (List.length_eq_zero_iff.mp l1.symm)
    · exact co_bad h
  · exact co_bad h
theorem om_mod : OpM K (rI (fun _ j => 0 < j) fun i j => .int (i % j)) dMod := by
  intro W σ p G H v u x y Q r hv hu h
  unfold dMod at h
  split at h
  · rename_i i j
    cases inv_int hv
    cases inv_int hu
    split at h
    · rename_i hc
      exact ⟨i, j, rfl, rfl, hc, h.here r (.int _)⟩
    · exact co_bad h
  · exact co_bad h
theorem om_div : OpM K (rI CDiv fun i j => .int (i / j)) dDiv := by
  intro W σ p G H v u x y Q r hv hu h
  unfold dDiv at h
  split at h
  · rename_i i j
    cases inv_int hv
    cases inv_int hu
    split at h
    · rename_i hc
      exact ⟨i, j, rfl, rfl, hc, h.here r (.int _)⟩
    · exact co_bad h
  · exact co_bad h
theorem om_pow : OpM K (rI CPow fun i j => .int (i ^ j.toNat)) dPow := by
  intro W σ p G H v u x y Q r hv hu h
  unfold dPow at h
  split at h
  · rename_i i j
    cases inv_int hv
    cases inv_int hu
    split at h
    · rename_i hc
      exact ⟨i, j, rfl, rfl, hc, h.here r (.int _)⟩
    · exact co_bad h
  · exact co_bad h
theorem mapM_some {α β : Type} {f : α → Option β} : ∀ {l : List α} {m : List β}, l.mapM f = some m → (l = [] ∧ m = []) ∨ ∃ a r b s, l = a :: r ∧ m = b :: s ∧ f a = some b ∧ r.mapM f = some s
  | [], m, h => .inl ⟨rfl, by simpa using h.symm⟩
  | a :: r, m, h => by
    rw [List.mapM_cons] at h
    cases h1 : f a with
    | none => rw [h1] at h; cases h
    | some b =>
      cases h2 : r.mapM f with
      | none => rw [h1, h2] at h; cases h
      | some s =>
        rw [h1, h2] at h
        cases h
        exact .inr ⟨a, r, b, s, rfl, rfl, h1, h2⟩
theorem mapM_none_nil {α β : Type} {f : α → Option β} : ([] : List α).mapM f = some [] := rfl
theorem shp_all {n : Nat} {xs : List PyData} (h : PyData.canLayAll0 xs = true ∧ PyData.depthAll xs ≤ n) : (PyData.tuple xs).canLay0 = true ∧ (PyData.tuple xs).depth ≤ n + 1 ∧ (PyData.list xs).canLay0 = true ∧ (PyData.list xs).depth ≤ n + 1 := by
  refine ⟨?_, ?_, ?_, ?_⟩
  · rw [PyData.canLay0]; exact h.1
  · rw [PyData.depth]; omega
  · rw [PyData.canLay0]; exact h.1
  · rw [PyData.depth]; omega
theorem ints_lay : ∀ ns : List Int, PyData.canLayAll0 (ns.map .int) = true ∧ PyData.depthAll (ns.map .int) ≤ 0
  | [] => by simp [PyData.canLayAll0, PyData.depthAll]
  | n :: r => by
    have := ints_lay r
    simp only [List.map_cons, PyData.canLayAll0, PyData.depthAll, PyData.canLay0, PyData.depth, Bool.true_and]
    exact ⟨this.1, by omega⟩
theorem ints_dp (H : Hp) : ∀ ns : List Int, DpAll K H (ns.map V.int) (ns.map .int)
  | [] => .nil
  | n :: r => .cons (.int n) (ints_dp H r)
theorem py_ok (r : Rel K p G H) : ∀ (n : Nat) (v : V) (d : D) (z : PyData), Den K p H v d → py G n d = some z → Dp K H v z ∧ z.canLay0 = true ∧ z.depth ≤ n
  | n, _, _, _, .non, h => by
    unfold py at h; cases h
    exact ⟨.non, by rw [PyData.canLay0], by rw [PyData.depth]; omega⟩
  | n, _, _, _, .bl b, h => by
    unfold py at h; cases h
    exact ⟨.bl b, by rw [PyData.canLay0], by rw [PyData.depth]; omega⟩
  | n, _, _, _, .int b, h => by
    unfold py at h; cases h
    exact ⟨.int b, by rw [PyData.canLay0], by rw [PyData.depth]; omega⟩
  | n, _, _, _, .str b, h => by
    unfold py at h
    split at h
    · rename_i hb
      cases h
      exact ⟨.str b, by rw [PyData.canLay0]; exact hb, by rw [PyData.depth]; omega⟩
    · cases h
  | 0, _, _, _, .tup _ _, h => by unfold py at h; cases h
  | 0, _, _, _, .ref _, h => by unfold py at h; cases h
  | 0, _, _, _, .scr _, h => by unfold py at h; cases h
  | _, _, _, _, .exn, h => by unfold py at h; cases h
  | n + 1, _, _, z, .tup (ds := ds) ha hs, h => by
    unfold py at h
    cases e : ds.mapM (py G n) with
    | none => rw [e] at h; cases h
    | some zs =>
      rw [e] at h
      cases h
      have all : ∀ (ds : List D) (vs : List V) (zs : List PyData), Dens K p H vs ds → ds.mapM (py G n) = some zs → DpAll K H vs zs ∧ PyData.canLayAll0 zs = true ∧ PyData.depthAll zs ≤ n := by
        intro ds
        induction ds with
        | nil =>
          intro vs zs hd hm
          cases hd
          cases (show zs = [] by simpa using hm.symm)
          exact ⟨.nil, by rw [PyData.canLayAll0], by rw [PyData.depthAll]; omega⟩
        | cons d ds ih =>
          intro vs zs hd hm
          rcases mapM_some hm with ⟨z1, _⟩ | ⟨a, r', b, s, e1, e2, e3, e4⟩
          · cases z1
          · cases e1
            subst e2
            cases hd with
            | cons h1 h2 =>
              obtain ⟨q1, q2, q3⟩ := py_ok r n _ _ _ h1 e3
              obtain ⟨q4, q5, q6⟩ := ih _ _ h2 e4
              refine ⟨.cons q1 q4, ?_, ?_⟩
              · rw [PyData.canLayAll0, q2, q5]; rfl
              · rw [PyData.depthAll]; omega
      obtain ⟨q1, q2, q3⟩ := all _ _ _ hs e
      have := shp_all ⟨q2, q3⟩
      exact ⟨.tup (.inl (.inl ha)) q1, this.1, this.2.1⟩
  | n + 1, _, _, z, .ref (n := m) ha, h => by
    unfold py at h
    split at h
    · rename_i ds g
      obtain ⟨vs, hl, hs⟩ := r.lst ha g
      cases e : ds.mapM (py G n) with
      | none => rw [e] at h; cases h
      | some zs =>
        rw [e] at h
        cases h
        have all : ∀ (ds : List D) (vs : List V) (zs : List PyData), Dens K p H vs ds → ds.mapM (py G n) = some zs → DpAll K H vs zs ∧ PyData.canLayAll0 zs = true ∧ PyData.depthAll zs ≤ n := by
          intro ds
          induction ds with
          | nil =>
            intro vs zs hd hm
            cases hd
            cases (show zs = [] by simpa using hm.symm)
            exact ⟨.nil, by rw [PyData.canLayAll0], by rw [PyData.depthAll]; omega⟩
          | cons d ds ih =>
            intro vs zs hd hm
            rcases mapM_some hm with ⟨z1, _⟩ | ⟨a, r', b, s, e1, e2, e3, e4⟩
            · cases z1
            · cases e1
              subst e2
              cases hd with
              | cons h1 h2 =>
                obtain ⟨q1, q2, q3⟩ := py_ok r n _ _ _ h1 e3
                obtain ⟨q4, q5, q6⟩ := ih _ _ h2 e4
                refine ⟨.cons q1 q4, ?_, ?_⟩
                · rw [PyData.canLayAll0, q2, q5]; rfl
                · rw [PyData.depthAll]; omega
        obtain ⟨q1, q2, q3⟩ := all _ _ _ hs e
        have := shp_all ⟨q2, q3⟩
        exact ⟨.lst (.inl (.inl hl)) q1, this.2.2.1, this.2.2.2⟩
    · cases h
  | n + 1, _, _, z, .scr (ns := ns) ha, h => by
    unfold py at h
    cases h
    have := ints_lay ns
    have q := shp_all (n := 0) this
    exact ⟨.lst ha.sq (ints_dp H ns), q.2.2.1, by omega⟩
theorem py_all (r : Rel K p G H) (n : Nat) : ∀ (ds : List D) (vs : List V) (zs : List PyData), Dens K p H vs ds → ds.mapM (py G n) = some zs → DpAll K H vs zs ∧ PyData.canLayAll0 zs = true ∧ PyData.depthAll zs ≤ n := by
  intro ds
  induction ds with
  | nil =>
    intro vs zs hd hm
    cases hd
    cases (show zs = [] by simpa using hm.symm)
    exact ⟨.nil, by rw [PyData.canLayAll0], by rw [PyData.depthAll]; omega⟩
  | cons d ds ih =>
    intro vs zs hd hm
    rcases mapM_some hm with ⟨z1, _⟩ | ⟨a, r', b, s, e1, e2, e3, e4⟩
    · cases z1
    · cases e1
      subst e2
      cases hd with
      | cons h1 h2 =>
        obtain ⟨q1, q2, q3⟩ := py_ok r n _ _ _ h1 e3
        obtain ⟨q4, q5, q6⟩ := ih _ _ h2 e4
        refine ⟨.cons q1 q4, ?_, ?_⟩
        · rw [PyData.canLayAll0, q2, q5]; rfl
        · rw [PyData.depthAll]; omega
theorem shaped_of {n : Nat} {z : PyData} (h : z.canLay0 = true ∧ z.depth ≤ n) (hn : n ≤ 64) : SeqAt.shaped z = true := by
  unfold SeqAt.shaped
  rw [h.1, decide_eq_true (show z.depth ≤ 64 by omega)]
  rfl
/-- a comparison by values does a plain one -/
def CmM (K : PySem.W.Frag) (r : R2) (f : D → D → Gp → R Bool) : Prop := ∀ (W : WX) (σ : St) (p : List Addr) (G : Gp) (H : Hp) (v u : V) (x y : D) (Q : VK), Rel K p G H → Den K p H v x → Den K p H u y →
  Co K W σ p H (fun _ _ (v : V) (b : Bool) => v = .bl b) (f x y G) Q → r v u H Q
@[simp] def notR (f : D → D → Gp → R Bool) : D → D → Gp → R Bool := fun x y G => (f x y G).bind fun b G => .ok (!b) G
theorem cm_eq : CmM K (rEqD K) dEq := by
  intro W σ p G H v u x y Q r hv hu h
  unfold dEq at h
  split at h
  · rename_i a b e1 e2
    obtain ⟨q1, q2⟩ := py_ok r 20 _ _ _ hv e1
    obtain ⟨q3, q4⟩ := py_ok r 20 _ _ _ hu e2
    exact ⟨a, b, q1, q3, shaped_of q2 (by decide), shaped_of q4 (by decide), h.here r rfl⟩
  · exact co_bad h
theorem cm_ne : CmM K (rNeD K) (notR dEq) := by
  intro W σ p G H v u x y Q r hv hu h
  unfold notR dEq at h
  split at h
  · rename_i a b e1 e2
    obtain ⟨q1, q2⟩ := py_ok r 20 _ _ _ hv e1
    obtain ⟨q3, q4⟩ := py_ok r 20 _ _ _ hu e2
    exact ⟨a, b, q1, q3, shaped_of q2 (by decide), shaped_of q4 (by decide), Co.here (d := _) (G := _) h r rfl⟩
  · exact co_bad h
def rSL (g : List Nat → List Nat → Bool) : R2 := fun x y H Q => ∃ i j : Str, x = .str i ∧ y = .str j ∧ Q (.bl (g i.cps.toList j.cps.toList)) H
def rLtP (K : PySem.W.Frag) : R2 := fun x y H Q => ∃ (a b : Addr) (i j k l : Int), x = .ref a ∧ y = .ref b ∧ SqT K H a [.int i, .int j] ∧ SqT K H b [.int k, .int l] ∧ Q (.bl (ltPair i j k l)) H
def rGtP (K : PySem.W.Frag) : R2 := fun x y H Q => ∃ (a b : Addr) (i j k l : Int), x = .ref a ∧ y = .ref b ∧ SqT K H a [.int i, .int j] ∧ SqT K H b [.int k, .int l] ∧ Q (.bl (ltPair k l i j)) H
theorem vals2 {i j : Int} {us : List Value} (h : Vals [.int i, .int j] us) : ∃ t t', us = [.int i t, .int j t'] := by
  cases h with
  | cons r1 r2 =>
    cases r2 with
    | cons r3 r4 =>
      cases r4
      obtain ⟨t, rfl⟩ := r1
      obtain ⟨t', rfl⟩ := r3
      exact ⟨t, t', rfl⟩
theorem pair_gt (i j k l : Int) : Ob.lexAt (fun n => if n = 0 then i == k else j == l) (fun n => if n = 0 then decide (k < i) else decide (l < j)) false 0 2 = ltPair k l i j := by
  unfold ltPair
  rw [Ob.lexAt_succ, Ob.lexAt_succ, Ob.lexAt_zero]
  by_cases c1 : i = k
  · subst c1
    by_cases c2 : j = l
    · subst c2; simp
    · simp [c2]
  · have : ¬ (k = i) := fun e => c1 e.symm
    simp [c1, this]
theorem pair_lt (i j k l : Int) : Ob.lexAt (fun n => if n = 0 then i == k else j == l) (fun n => if n = 0 then decide (i < k) else decide (j < l)) false 0 2 = ltPair i j k l := by
  unfold ltPair
  rw [Ob.lexAt_succ, Ob.lexAt_succ, Ob.lexAt_zero]
  by_cases c1 : i = k
  · subst c1
    by_cases c2 : j = l
    · subst c2; simp
    · simp [c2]
  · simp [c1]
theorem op_gtP {X : Cx} (hu : X.A.units < cLine) : OpR X (compareOp .Gt) (rGtP X.K) := by
  intro pins s σ H x y v u Q I rx ry h
  obtain ⟨a, b, i, j, k, l, rfl, rfl, ha, hb, q⟩ := h
  cases rx
  cases ry
  obtain ⟨its, r1, p1, _⟩ := I.tuple ha
  obtain ⟨its2, r2, p2, _⟩ := I.tuple hb
  obtain ⟨t1, t2, rfl⟩ := vals2 r1
  obtain ⟨t3, t4, rfl⟩ := vals2 r2
  have z := Ob.RcOp.tuples_gt (A := X.A) (s := s) (e := fun n => if n = 0 then i == k else j == l) (r := fun n => if n = 0 then decide (k < i) else decide (l < j)) p1 p2 hu (fun n h1 h2 => by
    match n, h1, h2 with
    | 0, _, _ => exact SeqAt.EqAt.int_int _ _ _ _
    | 1, _, _ => exact SeqAt.EqAt.int_int _ _ _ _) (fun n h1 h2 _ => by
    match n, h1, h2 with
    | 0, _, _ => exact Ob.RcOp.gt_int i k t1 t3
    | 1, _, _ => exact Ob.RcOp.gt_int j l t2 t4)
  have e : Ob.lexAt (fun n => if n = 0 then i == k else j == l) (fun n => if n = 0 then decide (k < i) else decide (l < j)) (decide ((#[Value.int i t1, .int j t2]).size > (#[Value.int k t3, .int l t4]).size)) 0 (min (#[Value.int i t1, .int j t2]).size (#[Value.int k t3, .int l t4]).size) = ltPair k l i j := pair_gt i j k l
  have z' : Ob.RcOp .Gt X.A s (.ref a) (.ref b) (ltPair k l i j) := e ▸ z
  exact z' X.prog X.w X.xe (EP X pins σ Q) ⟨.bl _, H, I, rfl, q⟩
theorem op_ltP {X : Cx} (hu : X.A.units < cLine) : OpR X (compareOp .Lt) (rLtP X.K) := by
  intro pins s σ H x y v u Q I rx ry h
  obtain ⟨a, b, i, j, k, l, rfl, rfl, ha, hb, q⟩ := h
  cases rx
  cases ry
  obtain ⟨its, r1, p1, _⟩ := I.tuple ha
  obtain ⟨its2, r2, p2, _⟩ := I.tuple hb
  obtain ⟨t1, t2, rfl⟩ := vals2 r1
  obtain ⟨t3, t4, rfl⟩ := vals2 r2
  have z := Ob.RcOp.tuples_lt (A := X.A) (s := s) (e := fun n => if n = 0 then i == k else j == l) (r := fun n => if n = 0 then decide (i < k) else decide (j < l)) p1 p2 hu (fun n h1 h2 => by
    match n, h1, h2 with
    | 0, _, _ => exact SeqAt.EqAt.int_int _ _ _ _
    | 1, _, _ => exact SeqAt.EqAt.int_int _ _ _ _) (fun n h1 h2 _ => by
    match n, h1, h2 with
    | 0, _, _ => exact Ob.RcOp.lt_int i k t1 t3
    | 1, _, _ => exact Ob.RcOp.lt_int j l t2 t4)
  have e : Ob.lexAt (fun n => if n = 0 then i == k else j == l) (fun n => if n = 0 then decide (i < k) else decide (j < l)) (decide ((#[Value.int i t1, .int j t2]).size < (#[Value.int k t3, .int l t4]).size)) 0 (min (#[Value.int i t1, .int j t2]).size (#[Value.int k t3, .int l t4]).size) = ltPair i j k l := pair_lt i j k l
  have z' : Ob.RcOp .Lt X.A s (.ref a) (.ref b) (ltPair i j k l) := e ▸ z
  exact z' X.prog X.w X.xe (EP X pins σ Q) ⟨.bl _, H, I, rfl, q⟩
theorem den_pair {p : List Addr} {H : Hp} {v : V} {i j : Int} (h : Den K p H v (.tup [.int i, .int j])) : ∃ a, v = .ref a ∧ H a = some (.tup [.int i, .int j]) := by
  obtain ⟨a, vs, rfl, ha, hs⟩ := inv_tup h
  cases hs with
  | cons h1 h2 =>
    cases h2 with
    | cons h3 h4 =>
      cases h4
      cases h1
      cases h3
      exact ⟨a, rfl, ha⟩
theorem cm_lt : CmM K (fun x y H Q => rI0 (fun i j => .bl (decide (i < j))) x y H Q ∨ ((∃ i j : Str, x = .str i ∧ y = .str j ∧ Q (.bl (decide (i.cps.toList < j.cps.toList))) H) ∨ rLtP K x y H Q)) dLt := by
  intro W σ p G H v u x y Q r hv hu h
  unfold dLt at h
  split at h
  · rename_i i j
    cases inv_int hv
    cases inv_int hu
    exact .inl ⟨i, j, rfl, rfl, h.here r rfl⟩
  · rename_i i j k l
    obtain ⟨a, rfl, ha⟩ := den_pair hv
    obtain ⟨b, rfl, hb⟩ := den_pair hu
    exact .inr (.inr ⟨a, b, i, j, k, l, rfl, rfl, .inl (.inl ha), .inl (.inl hb), h.here r rfl⟩)
  · rename_i i j
    cases inv_str hv
    cases inv_str hu
    exact .inr (.inl ⟨i, j, rfl, rfl, h.here r rfl⟩)
  · exact co_bad h
theorem cm_gt : CmM K (fun x y H Q => rI0 (fun i j => .bl (decide (j < i))) x y H Q ∨ ((∃ i j : Str, x = .str i ∧ y = .str j ∧ Q (.bl (decide (j.cps.toList < i.cps.toList))) H) ∨ rGtP K x y H Q)) (fun x y G => dLt y x G) := by
  intro W σ p G H v u x y Q r hv hu h
  dsimp only at h
  unfold dLt at h
  split at h
  · rename_i i j
    cases inv_int hv
    cases inv_int hu
    exact .inl ⟨_, _, rfl, rfl, h.here r rfl⟩
  · rename_i i j k l
    obtain ⟨a, rfl, ha⟩ := den_pair hv
    obtain ⟨b, rfl, hb⟩ := den_pair hu
    exact .inr (.inr ⟨a, b, k, l, i, j, rfl, rfl, .inl (.inl ha), .inl (.inl hb), h.here r rfl⟩)
  · rename_i i j
    cases inv_str hv
    cases inv_str hu
    exact .inr (.inl ⟨_, _, rfl, rfl, h.here r rfl⟩)
  · exact co_bad h
theorem cm_le : CmM K (fun x y H Q => rI0 (fun i j => .bl (decide (i ≤ j))) x y H Q ∨ ∃ i j : Str, x = .str i ∧ y = .str j ∧ Q (.bl (!decide (j.cps.toList < i.cps.toList))) H) dLe := by
  intro W σ p G H v u x y Q r hv hu h
  unfold dLe at h
  split at h
  · rename_i i j
    cases inv_int hv
    cases inv_int hu
    exact .inl ⟨i, j, rfl, rfl, h.here r rfl⟩
  · rename_i i j
    cases inv_str hv
    cases inv_str hu
    exact .inr ⟨i, j, rfl, rfl, h.here r rfl⟩
  · exact co_bad h
theorem cm_ge : CmM K (fun x y H Q => rI0 (fun i j => .bl (decide (j ≤ i))) x y H Q ∨ ∃ i j : Str, x = .str i ∧ y = .str j ∧ Q (.bl (!decide (i.cps.toList < j.cps.toList))) H) (fun x y G => dLe y x G) := by
  intro W σ p G H v u x y Q r hv hu h
  dsimp only at h
  unfold dLe at h
  split at h
  · rename_i i j
    cases inv_int hv
    cases inv_int hu
    exact .inl ⟨_, _, rfl, rfl, h.here r rfl⟩
  · rename_i i j
    cases inv_str hv
    cases inv_str hu
    exact .inr ⟨_, _, rfl, rfl, h.here r rfl⟩
  · exact co_bad h
end
end Mw
namespace Mw
open PySem L2
open PyProof.Rows hiding St
abbrev ME0 := En → Gp → R D
@[simp] def mVar (i : Nat) : ME0 := fun e G => match e[i]? with
  | some (some d) => .ok d G
  | _ => .bad
@[simp] def mC (d : D) : ME0 := fun _ G => .ok d G
@[simp] def mBin (f : D → D → Gp → R D) (a b : ME0) : ME0 := fun e G => (a e G).bind fun x G => (b e G).bind fun y G => f x y G
@[simp] def mCmpB (f : D → D → Gp → R Bool) (a b : ME0) : En → Gp → R Bool := fun e G => (a e G).bind fun x G => (b e G).bind fun y G => f x y G
@[simp] def mOfB (m : En → Gp → R Bool) : ME0 := fun e G => (m e G).bind fun b G => .ok (.bl b) G
@[simp] def mNeg (a : ME0) : ME0 := fun e G => (a e G).bind fun x G => match x with
  | .int i => .ok (.int (-i)) G
  | _ => .bad
section
variable {X : Cx} {W : WX} {a b c : Expr} {ma mb mc : ME0} {pos : Pos}
theorem se_var {i : Nat} {x : Str} (hN : X.N[i]? = some x) (hv : Vis X.env.scope x) (hd : (x == ("__debug__" : Str)) = false) (hcd : (x == ("__classdict__" : Str)) = false) : SE X W (.Name x pos) (mVar i) := by
  refine pe_imp (pe_var hN hv hd hcd) fun σ H Q ⟨p, G, e, r, ev, h⟩ => ?_
  unfold mVar at h
  split at h
  · rename_i d g
    obtain ⟨v, h1, h2⟩ := ev.2 i d g
    exact ⟨v, h1, h.here r h2⟩
  · exact co_bad h
theorem co_val {K : PySem.W.Frag} {σ : St} {p : List Addr} {G : Gp} {H : Hp} {Q : VK} {v : V} (d : D) {z : R D} (h : Co K W σ p H (Den K) z Q) (e : z = .ok d G) (r : Rel K p G H) (dv : Den K p H v d) : Q v H := by
  subst e
  exact h.here r dv
theorem se_int {i : Int} {j : Nat} : SE X W (.Constant (.int i) j pos) (mC (.int i)) := pe_imp pe_int fun σ H Q ⟨p, G, e, r, ev, h⟩ => co_val (D.int i) h rfl r (Den.int i)
theorem se_bl {i : Bool} {j : Nat} : SE X W (.Constant (.bool i) j pos) (mC (.bl i)) := pe_imp pe_bl fun σ H Q ⟨p, G, e, r, ev, h⟩ => co_val (D.bl i) h rfl r (Den.bl i)
theorem se_str {i : Str} {j : Nat} : SE X W (.Constant (.str i) j pos) (mC (.str i)) := pe_imp pe_str fun σ H Q ⟨p, G, e, r, ev, h⟩ => co_val (D.str i) h rfl r (Den.str i)
theorem se_non {j : Nat} : SE X W (.Constant .none j pos) (mC .non) := pe_imp pe_non fun σ H Q ⟨p, G, e, r, ev, h⟩ => co_val D.non h rfl r Den.non
/-- a constant of the module -/
theorem se_gint {x : Str} {i : Int} (hg : Gl X x) (hm : ∃ t, X.mg x = some (.int i t)) (hd : (x == ("__debug__" : Str)) = false) : SE X W (.Name x pos) (mC (.int i)) := by
  obtain ⟨t, hm⟩ := hm
  exact pe_imp (pe_glob (v := .int i) hg hm ⟨t, rfl⟩ hd) fun σ H Q ⟨p, G, e, r, ev, h⟩ => co_val (D.int i) h rfl r (Den.int i)
theorem se_gstr {x : Str} {i : Str} (hg : Gl X x) (hm : ∃ t, X.mg x = some (.str i t)) (hd : (x == ("__debug__" : Str)) = false) : SE X W (.Name x pos) (mC (.str i)) := by
  obtain ⟨t, hm⟩ := hm
  exact pe_imp (pe_glob (v := .str i) hg hm ⟨t, rfl⟩ hd) fun σ H Q ⟨p, G, e, r, ev, h⟩ => co_val (D.str i) h rfl r (Den.str i)
/-- two operands, one behind the other -/
theorem read2 {r : R2} {f : D → D → Gp → R D} (hf : OpM X.K r f) {σ : St} {H : Hp} {Q : VK} (h : tE X.K W (mBin f ma mb) σ H Q) : tOp r (tE X.K W ma) (tE X.K W mb) σ H Q := by
  obtain ⟨p, G, e, rl, ev, h⟩ := h
  refine ⟨p, G, e, rl, ev, h.bind fun x G1 q H1 v pr t r1 dv h1 => ?_⟩
  refine ⟨q, G1, e, r1, ev.mono t pr, h1.bind fun y G2 q2 H2 u pr2 t2 r2 du h2 => ?_⟩
  exact hf W σ q2 G2 H2 v u x y Q r2 (dv.mono t2 pr2) du h2
theorem se_bin {op : Operator} {r : R2} {f : D → D → Gp → R D} (ho : OpR X (binaryOp op) r) (hf : OpM X.K r f) (ha : SE X W a ma) (hb : SE X W b mb) : SE X W (.BinOp a op b pos) (mBin f ma mb) :=
  pe_imp (pe_op ho ha hb) fun _ _ _ h => read2 hf h
theorem se_add (ha : SE X W a ma) (hb : SE X W b mb) : SE X W (.BinOp a .Add b pos) (mBin dAdd ma mb) := se_bin ((op_add.or op_catA).or op_cat) om_add ha hb
theorem se_sub (ha : SE X W a ma) (hb : SE X W b mb) : SE X W (.BinOp a .Sub b pos) (mBin dSub ma mb) := se_bin op_sub om_sub ha hb
theorem se_mul (ha : SE X W a ma) (hb : SE X W b mb) : SE X W (.BinOp a .Mult b pos) (mBin dMul ma mb) := se_bin (op_mul.or op_repT) om_mul ha hb
theorem se_mod (ha : SE X W a ma) (hb : SE X W b mb) : SE X W (.BinOp a .Mod b pos) (mBin dMod ma mb) := se_bin op_mod om_mod ha hb
theorem se_div (ha : SE X W a ma) (hb : SE X W b mb) : SE X W (.BinOp a .FloorDiv b pos) (mBin dDiv ma mb) := se_bin op_fdiv om_div ha hb
theorem se_pow (ha : SE X W a ma) (hb : SE X W b mb) : SE X W (.BinOp a .Pow b pos) (mBin dPow ma mb) := se_bin op_pow om_pow ha hb
theorem se_neg (ha : SE X W a ma) : SE X W (.UnaryOp .USub a pos) (mNeg ma) := by
  refine pe_imp (pe_un un_neg ha) fun σ H Q ⟨p, G, e, rl, ev, h⟩ => ?_
  refine ⟨p, G, e, rl, ev, h.bind fun x G1 q H1 v pr t r1 dv h1 => ?_⟩
  split at h1
  · cases inv_int dv
    exact ⟨_, rfl, h1.here r1 (.int _)⟩
  · exact co_bad h1
theorem ofB {m : En → Gp → R Bool} {p : List Addr} {G : Gp} {e : En} {σ : St} {H : Hp} {Q : VK} (h : Co X.K W σ p H (Den X.K) (mOfB m e G) Q) : Co X.K W σ p H (fun _ _ (v : V) (b : Bool) => v = .bl b) (m e G) Q := by
  refine h.bind fun b G1 q H1 v pr t r1 dv h1 => ?_
  subst dv
  exact h1.here r1 (.bl b)
theorem ofT {m : En → Gp → R Bool} {p : List Addr} {G : Gp} {e : En} {σ : St} {H : Hp} {Q : Bool → Hp → Prop} (h : Co X.K W σ p H (fun _ _ (b c : Bool) => b = c) (m e G) Q) : Co X.K W σ p H (fun _ _ (v : V) (b : Bool) => v = .bl b) (m e G) (fun x H' => ∃ k, x = .bl k ∧ Q k H') := by
  cases hm : m e G with
  | ok b G1 =>
    rw [hm] at h
    exact fun q H' v pr t r1 dv => ⟨b, dv, h q H' b pr t r1 rfl⟩
  | exc c G1 => rw [hm] at h; exact h
  | bad => rw [hm] at h; exact h
theorem readC {r : R2} {f : D → D → Gp → R Bool} (hf : CmM X.K r f) {σ : St} {p : List Addr} {G : Gp} {e : En} {H : Hp} {Q : VK} (rl : Rel X.K p G H) (ev : Envs X.K p H σ e) (h : Co X.K W σ p H (fun _ _ (v : V) (b : Bool) => v = .bl b) (mCmpB f ma mb e G) Q) :
    tOp r (tE X.K W ma) (tE X.K W mb) σ H Q := by
  refine ⟨p, G, e, rl, ev, h.bind fun x G1 q H1 v pr t r1 dv h1 => ?_⟩
  refine ⟨q, G1, e, r1, ev.mono t pr, h1.bind fun y G2 q2 H2 u pr2 t2 r2 du h2 => ?_⟩
  exact hf W σ q2 G2 H2 v u x y Q r2 (dv.mono t2 pr2) du h2
theorem se_cmp {op : CmpOp} {r : R2} {f : D → D → Gp → R Bool} (ho : OpR X (compareOp op) r) (hf : CmM X.K r f) (ha : SE X W a ma) (hb : SE X W b mb) (hm : behindInMarks op b = false) : SE X W (.Compare a [op] [b] pos) (mOfB (mCmpB f ma mb)) :=
  pe_imp (pe_cmpR ho ha hb hm) fun _ _ _ ⟨p, G, e, rl, ev, h⟩ => readC hf rl ev (ofB h)
theorem st_cmp {op : CmpOp} {r : R2} {f : D → D → Gp → R Bool} (ho : OpR X (compareOp op) r) (hf : CmM X.K r f) (ha : SE X W a ma) (hb : SE X W b mb) (hm : behindInMarks op b = false) : ST X W (.Compare a [op] [b] pos) (mCmpB f ma mb) :=
  pt_imp (pt_cmpR ho ha hb hm) fun _ _ _ ⟨p, G, e, rl, ev, h⟩ => readC hf rl ev (ofT h)
/-- x in y -/
def rInDct : R2 := fun x y H Q => ∃ a o, y = .ref a ∧ DGet H a x o ∧ Q (.bl o.isSome) H
def rNotInDct : R2 := fun x y H Q => ∃ a o, y = .ref a ∧ DGet H a x o ∧ Q (.bl (!o.isSome)) H
theorem op_inDct (hu : X.A.units + 1 < cLine) : OpR X (compareOp .In) rInDct := by
  intro pins s σ H x y v u Q I rx ry h
  obtain ⟨a, o, rfl, g, q⟩ := h
  obtain rfl : u = Value.ref a := ry
  exact d_in hu I g rx fun s3 I3 => ⟨.bl o.isSome, H, I3, rfl, q⟩
theorem op_notInDct (hu : X.A.units + 1 < cLine) : OpR X (compareOp .NotIn) rNotInDct := by
  intro pins s σ H x y v u Q I rx ry h
  obtain ⟨a, o, rfl, g, q⟩ := h
  obtain rfl : u = Value.ref a := ry
  exact d_notIn hu I g rx fun s3 I3 => ⟨.bl (!o.isSome), H, I3, rfl, q⟩
theorem den_key {K : PySem.W.Frag} {p : List Addr} {H : Hp} {v : V} {x : D} {k : Key} (h : Den K p H v x) (e : keyD x = some k) : v = kV k := by
  cases h <;> simp [keyD] at e <;> subst e <;> rfl
theorem kvs_get {K : PySem.W.Frag} {p : List Addr} {H : Hp} {k : Key} : ∀ {ws : List (Key × V)} {ds : List (Key × D)}, KVs K p H ws ds →
    (∀ d, getK ds k = some d → ∃ v, valV ws k = some v ∧ Den K p H v d) ∧ (getK ds k = none → valV ws k = none)
  | _, _, .nil => ⟨fun d e => (nomatch e), fun _ => rfl⟩
  | _, _, .cons (k := k') (v := v') (d := d') hd hs => by
    have ih := kvs_get (k := k) hs
    by_cases hk : k' = k
    · subst hk
      refine ⟨fun d e => ⟨v', by simp [valV], ?_⟩, fun e => ?_⟩
      · simp [getK] at e
        subst e
        exact hd
      · simp [getK] at e
    · refine ⟨fun d e => ?_, fun e => ?_⟩
      · simp [getK, hk] at e
        obtain ⟨v, h1, h2⟩ := ih.1 d (by simp [getK, e])
        exact ⟨v, by rw [valV_neg hk]; exact h1, h2⟩
      · rw [valV_neg hk]
        refine ih.2 ?_
        unfold getK at e ⊢
        rw [List.find?_cons, show decide ((k', d').1 = k) = false from decide_eq_false hk] at e
        exact e
theorem kvs_some {K : PySem.W.Frag} {p : List Addr} {H : Hp} {k : Key} {ws : List (Key × V)} {ds : List (Key × D)} (h : KVs K p H ws ds) : (valV ws k).isSome = (getK ds k).isSome := by
  cases e : getK ds k with
  | none => rw [(kvs_get h).2 e] <;> rfl
  | some d =>
    obtain ⟨v, h1, _⟩ := (kvs_get h).1 d e
    rw [h1]
    rfl
theorem py_flat {K : PySem.W.Frag} {p : List Addr} {H : Hp} {G : Gp} {v : V} {x : D} {z : PyData} {n : Nat} (h : Den K p H v x) (f : flatD x = true) (e : py G n x = some z) : flatV v = true ∧ ∀ {w : V} {y : D} {z' : PyData}, Den K p H w y → flatD y = true → py G n y = some z' → eqV w v = PyData.eqv z' z := by
  cases h with
  | non =>
    unfold py at e; cases e
    refine ⟨rfl, fun {w y z'} hw fw ew => ?_⟩
    cases hw <;> first | cases fw | skip
    all_goals (unfold py at ew; try split at ew)
    all_goals (cases ew)
    all_goals (unfold PyData.eqv; rfl)
  | bl b =>
    unfold py at e; cases e
    refine ⟨rfl, fun {w y z'} hw fw ew => ?_⟩
    cases hw <;> first | cases fw | skip
    all_goals (unfold py at ew; try split at ew)
    all_goals (cases ew)
    all_goals (unfold PyData.eqv; rfl)
  | int b =>
    unfold py at e; cases e
    refine ⟨rfl, fun {w y z'} hw fw ew => ?_⟩
    cases hw <;> first | cases fw | skip
    all_goals (unfold py at ew; try split at ew)
    all_goals (cases ew)
    all_goals (unfold PyData.eqv; rfl)
  | str b =>
    unfold py at e
    split at e
    · cases e
      refine ⟨rfl, fun {w y z'} hw fw ew => ?_⟩
      cases hw <;> first | cases fw | skip
      all_goals (unfold py at ew; try split at ew)
      all_goals (cases ew)
      all_goals (unfold PyData.eqv; rfl)
    · cases e
  | tup _ _ => cases f
  | ref _ => cases f
  | scr _ => cases f
  | exn => cases f

theorem any_flat {K : PySem.W.Frag} {p : List Addr} {H : Hp} {G : Gp} {n : Nat} {v : V} {x : D} {z : PyData} (h : Den K p H v x) (f : flatD x = true) (e : py G n x = some z) : ∀ {ws : List V} {ds : List D} {zs : List PyData}, Dens K p H ws ds → ds.all flatD = true → ds.mapM (py G n) = some zs →
    ws.all flatV = true ∧ inV v ws = zs.any fun y => PyData.eqv y z
  | _, _, _, .nil, _, hm => by
    cases (show _ = [] by simpa using hm.symm)
    exact ⟨rfl, rfl⟩
  | _, _, _, .cons h1 h2, hf, hm => by
    rcases mapM_some hm with ⟨z1, _⟩ | ⟨a, r', b, s, e1, e2, e3, e4⟩
    · cases z1
    · cases e1
      subst e2
      rw [List.all_cons, Bool.and_eq_true] at hf
      obtain ⟨i1, i2⟩ := any_flat h f e h2 hf.2 e4
      obtain ⟨j1, _⟩ := py_flat h1 hf.1 e3
      have j2 := (py_flat h f e).2 h1 hf.1 e3
      refine ⟨by rw [List.all_cons, j1, i1]; rfl, ?_⟩
      unfold inV at i2 ⊢
      rw [List.any_cons, List.any_cons, i2, j2]
def rInT (K : PySem.W.Frag) : R2 := fun x y H Q => ∃ d ds, Dp K H x d ∧ Dp K H y (.tuple ds) ∧ SeqAt.shaped d = true ∧ SeqAt.shaped (.tuple ds) = true ∧ Q (.bl (ds.any fun z => PyData.eqv z d)) H
def rNotInT (K : PySem.W.Frag) : R2 := fun x y H Q => ∃ d ds, Dp K H x d ∧ Dp K H y (.tuple ds) ∧ SeqAt.shaped d = true ∧ SeqAt.shaped (.tuple ds) = true ∧ Q (.bl (!ds.any fun z => PyData.eqv z d)) H
theorem op_inT (hu : X.A.units + 65 < cLine) : OpR X (compareOp .In) (rInT X.K) := by
  intro pins s σ H x y v u Q I rx ry h
  obtain ⟨d, ds, hd, he, sd, se, q⟩ := h
  obtain ⟨as, r1⟩ := Dp.reads I d x v hd rx
  obtain ⟨bs, r2⟩ := Dp.reads I (.tuple ds) y u he ry
  exact SeqAt.in_tuple_reads r2 r1 (SeqAt.canLay_of_shaped se) (SeqAt.canLay_of_shaped sd) (room_in_shaped sd hu) ⟨.bl _, H, I, rfl, q⟩
theorem op_notInT (hu : X.A.units + 65 < cLine) : OpR X (compareOp .NotIn) (rNotInT X.K) := by
  intro pins s σ H x y v u Q I rx ry h
  obtain ⟨d, ds, hd, he, sd, se, q⟩ := h
  obtain ⟨as, r1⟩ := Dp.reads I d x v hd rx
  obtain ⟨bs, r2⟩ := Dp.reads I (.tuple ds) y u he ry
  exact SeqAt.notIn_tuple_reads r2 r1 (SeqAt.canLay_of_shaped se) (SeqAt.canLay_of_shaped sd) (room_in_shaped sd hu) ⟨.bl _, H, I, rfl, q⟩
def rInA (K : PySem.W.Frag) : R2 := fun x y H Q => ((((∃ (c : Nat) (z : Str), x = .str ⟨#[c]⟩ ∧ y = .str z ∧ Q (.bl (decide (c ∈ z.cps.toList))) H) ∨ rIn K false x y H Q) ∨ rInD K x y H Q) ∨ rInDct x y H Q) ∨ rInT K x y H Q
def rNotInA (K : PySem.W.Frag) : R2 := fun x y H Q => ((((∃ (c : Nat) (z : Str), x = .str ⟨#[c]⟩ ∧ y = .str z ∧ Q (.bl (!decide (c ∈ z.cps.toList))) H) ∨ rIn K true x y H Q) ∨ rNotInD K x y H Q) ∨ rNotInDct x y H Q) ∨ rNotInT K x y H Q
theorem op_inA (hu : X.A.units + 65 < cLine) : OpR X (compareOp .In) (rInA X.K) := (((op_in_sign.or op_in_seq).or (op_inD hu)).or (op_inDct (by omega))).or (op_inT hu)
theorem op_notInA (hu : X.A.units + 65 < cLine) : OpR X (compareOp .NotIn) (rNotInA X.K) := (((op_notIn_sign.or op_notIn_seq).or (op_notInD hu)).or (op_notInDct (by omega))).or (op_notInT hu)
theorem cm_inG {K : PySem.W.Frag} (neg : Bool) : CmM K (if neg = true then rNotInA K else rInA K) (if neg = true then notR dIn else dIn) := by
  intro W σ p G H v u x y Q r hv hu h
  have key : Co K W σ p H (fun _ _ (v : V) (b : Bool) => v = .bl (cond neg (!b) b)) (dIn x y G) Q := by
    cases neg with
    | false => exact h
    | true =>
      have h' : Co K W σ p H (fun _ _ (v : V) (b : Bool) => v = .bl b) ((dIn x y G).bind fun b G => .ok (!b) G) Q := h
      refine h'.bind fun b G1 q H1 v pr t r1 dv h1 => ?_
      subst dv
      exact h1.here r1 rfl
  clear h
  have fin : ∀ b, dIn x y G = .ok b G → Q (.bl (cond neg (!b) b)) H := fun b e => by
    rw [e] at key
    exact key.here r rfl
  unfold dIn at key
  split at key
  · rename_i z
    split at key
    · rename_i c
      cases inv_str hv
      cases inv_str hu
      have q := fin _ rfl
      cases neg with
      | false => exact .inl (.inl (.inl (.inl ⟨c, z, rfl, rfl, q⟩)))
      | true => exact .inl (.inl (.inl (.inl ⟨c, z, rfl, rfl, q⟩)))
    · exact co_bad key
  · rename_i ds
    split at key
    · rename_i a bs e1 e2
      split at key
      · rename_i hf
        rw [Bool.and_eq_true] at hf
        obtain ⟨a2, vs, rfl, ha, hxs⟩ := inv_tup hu
        obtain ⟨f1, _⟩ := py_flat hv hf.1 e1
        obtain ⟨f2, f3⟩ := any_flat hv hf.1 e1 hxs hf.2 e2
        have q := key.here r rfl
        rw [← f3] at q
        cases neg with
        | false => exact .inl (.inl (.inl (.inr ⟨a2, vs, rfl, .inr (.inl (.inl ha)), f1, f2, q⟩)))
        | true => exact .inl (.inl (.inl (.inr ⟨a2, vs, rfl, .inr (.inl (.inl ha)), f1, f2, q⟩)))
      · obtain ⟨a2, vs, rfl, ha, hxs⟩ := inv_tup hu
        obtain ⟨q1, q2⟩ := py_ok r 20 _ _ _ hv e1
        obtain ⟨q3, q4, q5⟩ := py_all r 20 _ _ _ hxs e2
        have sh := shp_all ⟨q4, q5⟩
        have q := key.here r rfl
        cases neg with
        | false => exact .inr ⟨a, bs, q1, .tup (.inl (.inl ha)) q3, shaped_of q2 (by decide), shaped_of ⟨sh.1, sh.2.1⟩ (by decide), q⟩
        | true => exact .inr ⟨a, bs, q1, .tup (.inl (.inl ha)) q3, shaped_of q2 (by decide), shaped_of ⟨sh.1, sh.2.1⟩ (by decide), q⟩
    · exact co_bad key
  · rename_i n
    split at key
    · rename_i ds g
      split at key
      · rename_i a bs e1 e2
        obtain ⟨a2, rfl, ha⟩ := inv_ref hu
        obtain ⟨vs, hl, hxs⟩ := r.lst ha g
        obtain ⟨q1, q2⟩ := py_ok r 20 _ _ _ hv e1
        obtain ⟨q3, q4, q5⟩ := py_all r 20 _ _ _ hxs e2
        have sh := shp_all ⟨q4, q5⟩
        have q := key.here r rfl
        cases neg with
        | false => exact .inl (.inl (.inr ⟨a, bs, q1, .lst (.inl (.inl hl)) q3, shaped_of q2 (by decide), shaped_of sh.2.2 (by decide), q⟩))
        | true => exact .inl (.inl (.inr ⟨a, bs, q1, .lst (.inl (.inl hl)) q3, shaped_of q2 (by decide), shaped_of sh.2.2 (by decide), q⟩))
      · exact co_bad key
    · rename_i kvs g
      split at key
      · rename_i k ek
        obtain ⟨a2, rfl, ha⟩ := inv_ref hu
        obtain ⟨ws, hl, hk⟩ := r.dct ha g
        cases den_key hv ek
        have q := key.here r rfl
        rw [← kvs_some hk] at q
        cases neg with
        | false => exact .inl (.inr ⟨a2, _, rfl, DGet.k hl, q⟩)
        | true => exact .inl (.inr ⟨a2, _, rfl, DGet.k hl, q⟩)
      · exact co_bad key
    · exact co_bad key
  · exact co_bad key
theorem cm_in {K : PySem.W.Frag} : CmM K (rInA K) dIn := cm_inG false
theorem cm_notIn {K : PySem.W.Frag} : CmM K (rNotInA K) (notR dIn) := cm_inG true
def isNonD : D → Bool
  | .non => true
  | _ => false
/-- x is None, True, False -/
def dIs (x y : D) (G : Gp) : R Bool := match y with
  | .non => .ok (isNonD x) G
  | .bl b => (match x with
    | .bl c => .ok (c == b) G
    | _ => .bad)
  | _ => .bad
theorem bl_dec (a b : Bool) : decide (a = b) = (a == b) := by cases a <;> cases b <;> rfl
theorem non_dec {K : PySem.W.Frag} {p : List Addr} {H : Hp} {v : V} {x : D} (h : Den K p H v x) : decide (v = .non) = isNonD x := by
  cases h <;> first | rfl | exact decide_eq_false (fun z => nomatch z)
theorem cm_is {K : PySem.W.Frag} : CmM K (fun x y H Q => (y = .non ∧ Q (.bl (decide (x = .non))) H) ∨ ∃ a b, x = .bl a ∧ y = .bl b ∧ Q (.bl (decide (a = b))) H) dIs := by
  intro W σ p G H v u x y Q r hv hu h
  unfold dIs at h
  split at h
  · cases hu
    have q := h.here r rfl
    rw [← non_dec hv] at q
    exact .inl ⟨rfl, q⟩
  · cases hu
    split at h
    · cases hv
      refine .inr ⟨_, _, rfl, rfl, ?_⟩
      rw [bl_dec]
      exact h.here r rfl
    · exact co_bad h
  · exact co_bad h
theorem cm_isnot {K : PySem.W.Frag} : CmM K (fun x y H Q => (y = .non ∧ Q (.bl (!decide (x = .non))) H) ∨ ∃ a b, x = .bl a ∧ y = .bl b ∧ Q (.bl (!decide (a = b))) H) (notR dIs) := by
  intro W σ p G H v u x y Q r hv hu h
  unfold notR dIs at h
  split at h
  · cases hu
    rw [R.bind_ok] at h
    have q := h.here r rfl
    rw [← non_dec hv] at q
    exact .inl ⟨rfl, q⟩
  · cases hu
    split at h
    · cases hv
      rw [R.bind_ok] at h
      refine .inr ⟨_, _, rfl, rfl, ?_⟩
      rw [bl_dec]
      exact h.here r rfl
    · exact co_bad h
  · exact co_bad h
inductive Cop where
  | eq | ne | lt | le | gt | ge | isC | isNot | inC | notIn
def Cop.op : Cop → CmpOp
  | .eq => .Eq | .ne => .NotEq | .lt => .Lt | .le => .LtE | .gt => .Gt | .ge => .GtE | .isC => .Is | .isNot => .IsNot | .inC => .In | .notIn => .NotIn
@[simp] def Cop.f : Cop → D → D → Gp → R Bool
  | .eq => dEq | .ne => notR dEq | .lt => dLt | .le => dLe | .gt => fun x y G => dLt y x G | .ge => fun x y G => dLe y x G | .isC => dIs | .isNot => notR dIs | .inC => dIn | .notIn => notR dIn
theorem cop_ok (hu : X.A.units + 65 < cLine) : ∀ o : Cop, ∃ r, OpR X (compareOp o.op) r ∧ CmM X.K r o.f
  | .eq => ⟨_, op_eqD (by omega), cm_eq⟩
  | .ne => ⟨_, op_neD (by omega), cm_ne⟩
  | .lt => ⟨_, op_lt.or (op_lt_str.or (op_ltP (by omega))), cm_lt⟩
  | .le => ⟨_, op_le.or op_le_str, cm_le⟩
  | .gt => ⟨_, op_gt.or (op_gt_str.or (op_gtP (by omega))), cm_gt⟩
  | .ge => ⟨_, op_ge.or op_ge_str, cm_ge⟩
  | .isC => ⟨_, op_isN.or op_is_bl, cm_is⟩
  | .isNot => ⟨_, op_notN.or op_isnot_bl, cm_isnot⟩
  | .inC => ⟨_, op_inA hu, cm_in⟩
  | .notIn => ⟨_, op_notInA hu, cm_notIn⟩
theorem se_cop (hu : X.A.units + 65 < cLine) (o : Cop) (ha : SE X W a ma) (hb : SE X W b mb) (hm : behindInMarks o.op b = false) : SE X W (.Compare a [o.op] [b] pos) (mOfB (mCmpB o.f ma mb)) := by
  obtain ⟨r, h1, h2⟩ := cop_ok (X := X) hu o
  exact se_cmp h1 h2 ha hb hm
theorem st_cop (hu : X.A.units + 65 < cLine) (o : Cop) (ha : SE X W a ma) (hb : SE X W b mb) (hm : behindInMarks o.op b = false) : ST X W (.Compare a [o.op] [b] pos) (mCmpB o.f ma mb) := by
  obtain ⟨r, h1, h2⟩ := cop_ok (X := X) hu o
  exact st_cmp h1 h2 ha hb hm
/-- a < b < c -/
@[simp] def mChain (f g : D → D → Gp → R Bool) (a b c : ME0) : ME0 := fun e G => (a e G).bind fun x G => (b e G).bind fun y G => (f x y G).bind fun k G => if k = true then (c e G).bind fun z G => (g y z G).bind fun k G => .ok (.bl k) G else .ok (.bl false) G
theorem se_chain (hu : X.A.units + 65 < cLine) (o o' : Cop) (ha : SE X W a ma) (hb : SE X W b mb) (hc : SE X W c mc) (hm : lastMarks [o.op, o'.op] [b, c] = false) : SE X W (.Compare a [o.op, o'.op] [b, c] pos) (mChain o.f o'.f ma mb mc) := by
  obtain ⟨r, h1, h2⟩ := cop_ok (X := X) hu o
  obtain ⟨r', h1', h2'⟩ := cop_ok (X := X) hu o'
  refine pe_imp (pe_chain h1 h1' ha hb hc hm) fun σ H Q ⟨p, G, e, rl, ev, h⟩ => ?_
  refine ⟨p, G, e, rl, ev, h.bind fun x G1 q H1 v pr t r1 dv h1 => ?_⟩
  refine ⟨q, G1, e, r1, ev.mono t pr, h1.bind fun y G2 q2 H2 u pr2 t2 r2 du h2x => ?_⟩
  refine h2 W σ q2 G2 H2 v u x y _ r2 (dv.mono t2 pr2) du (h2x.bind fun k G3 q3 H3 w pr3 t3 r3 dk h3 => ⟨k, dk, ?_⟩)
  cases k with
  | false => exact co_val (.bl false) h3 rfl r3 (.bl false)
  | true =>
    refine ⟨q3, G3, e, r3, ((ev.mono t pr).mono t2 pr2).mono t3 pr3, Co.bind (r := mc e G3) h3 fun z G4 q4 H4 w' pr4 t4 r4 dz h4 => ?_⟩
    refine h2' W σ q4 G4 H4 u w' y z Q r4 ((du.mono t3 pr3).mono t4 pr4) dz (h4.bind fun k G5 q5 H5 w2 pr5 t5 r5 dk5 h5 => ?_)
    subst dk5
    exact co_val (.bl k) h5 rfl r5 (.bl k)
def rIxDct : R2 := fun x y H Q => ∃ a v, x = .ref a ∧ DGet H a y (some v) ∧ Q v H
theorem ix_dct (hu : X.A.units + 1 < cLine) : IxR X rIxDct := by
  intro value slice pins s σ H x y v u Q I rx ry h hs
  obtain ⟨a, z, rfl, g, q⟩ := h
  obtain rfl : v = Value.ref a := rx
  exact tail_any (dict_typeIs I g) slot_dict_getitem.lookup (d_getItem hu I g ry fun w' s3 I3 rw' => ⟨z, H, I3, rw', q⟩) hs
theorem atI_den {K : PySem.W.Frag} {p : List Addr} {H : Hp} {ws : List V} {ds : List D} {i : Int} {d : D} (h : Dens K p H ws ds) (e : atI ds i = some d) : ∃ v, atI ws i = some v ∧ Den K p H v d := by
  unfold atI at e ⊢
  rw [h.length]
  cases hi : ixN ds.length i with
  | none => rw [hi] at e; cases e
  | some j =>
    rw [hi] at e
    exact h.get e
theorem atI_int {ns : List Int} {i d : Int} (e : atI ns i = some d) : atI (ns.map V.int) i = some (.int d) := by
  unfold atI at e ⊢
  rw [List.length_map]
  cases hi : ixN ns.length i with
  | none => rw [hi] at e; cases e
  | some j =>
    rw [hi] at e
    have e' : ns[j]? = some d := e
    show (ns.map V.int)[j]? = some (.int d)
    rw [List.getElem?_map, e']
    rfl
theorem om_ix {K : PySem.W.Frag} : OpM K (fun x y H Q => (rIxL K x y H Q ∨ rIxT K x y H Q) ∨ rIxDct x y H Q) dIx := by
  intro W σ p G H v u x y Q r hv hu h
  unfold dIx at h
  split at h
  · split at h
    · split at h
      · rename_i e
        obtain ⟨a, vs, rfl, ha, hxs⟩ := inv_tup hv
        cases inv_int hu
        obtain ⟨w, h1, h2⟩ := atI_den hxs e
        exact .inl (.inr ⟨a, vs, _, w, rfl, rfl, .inl (.inl ha), h1, h.here r h2⟩)
      · exact co_bad h
    · exact co_bad h
  · split at h
    · split at h
      · rename_i e
        obtain ⟨a, rfl, ha⟩ := inv_scr hv
        cases inv_int hu
        exact .inl (.inl ⟨a, _, _, _, rfl, rfl, ha.sq, atI_int e, h.here r (.int _)⟩)
      · exact co_bad h
    · exact co_bad h
  · split at h
    · rename_i g
      split at h
      · split at h
        · rename_i e
          obtain ⟨a, rfl, ha⟩ := inv_ref hv
          cases inv_int hu
          obtain ⟨vs, hl, hxs⟩ := r.lst ha g
          obtain ⟨w, h1, h2⟩ := atI_den hxs e
          exact .inl (.inl ⟨a, vs, _, w, rfl, rfl, .inl (.inl hl), h1, h.here r h2⟩)
        · exact co_bad h
      · exact co_bad h
    · rename_i g
      split at h
      · rename_i k ek
        split at h
        · rename_i d e
          obtain ⟨a, rfl, ha⟩ := inv_ref hv
          obtain ⟨ws, hl, hk⟩ := r.dct ha g
          cases den_key hu ek
          obtain ⟨w, h1, h2⟩ := (kvs_get hk).1 d e
          exact .inr ⟨a, w, rfl, by rw [← h1]; exact DGet.k hl, h.here r h2⟩
        · exact co_bad h
      · exact co_bad h
    · exact co_bad h
  · exact co_bad h
theorem se_ix (hu : X.A.units + 65 < cLine) (ha : SE X W a ma) (hb : SE X W b mb) (hs : PlainIx b) : SE X W (.Subscript a b pos) (mBin dIx ma mb) :=
  pe_imp (pe_ix ((ix_list.or ix_tup).or (ix_dct (by omega))) ha hb hs) fun _ _ _ h => read2 om_ix h
@[simp] def mPart (m : Option ME0) : En → Gp → R (Option Int) := match m with
  | none => fun _ G => .ok none G
  | some m => fun e G => (m e G).bind fun x G => match x with
    | .int i => .ok (some i) G
    | _ => .bad
@[simp] def mSl (a : ME0) (lo hi : Option ME0) : ME0 := fun e G => (a e G).bind fun x G => (mPart lo e G).bind fun l G => (mPart hi e G).bind fun h G => dSl x l h G
def tO (K : PySem.W.Frag) (W : WX) (m : En → Gp → R (Option Int)) : TO := fun σ H Q => ∃ p G e, Rel K p G H ∧ Envs K p H σ e ∧ Co K W σ p H (fun _ _ (b c : Option Int) => b = c) (m e G) Q
theorem po_imp {e : Option Expr} {t t' : TO} (h : PO X e t) (k : ∀ σ H Q, t' σ H Q → t σ H Q) : PO X e t' := ⟨fun pins s σ H Q I q => h.run pins s σ H Q I (k σ H Q q)⟩
theorem so_none : PO X none (tO X.K W (mPart none)) := po_imp po_none fun σ H Q ⟨p, G, e, rl, ev, h⟩ => Co.here (d := (none : Option Int)) (G := G) h rl rfl
theorem so_some (ha : SE X W a ma) : PO X (some a) (tO X.K W (mPart (some ma))) := by
  refine po_imp (po_some ha) fun σ H Q ⟨p, G, e, rl, ev, h⟩ => ?_
  refine ⟨p, G, e, rl, ev, Co.bind (r := ma e G) h fun x G1 q H1 v pr t r1 dv h1 => ?_⟩
  split at h1
  · cases inv_int dv
    exact ⟨_, rfl, h1.here r1 rfl⟩
  · exact co_bad h1
theorem cut_den {K : PySem.W.Frag} {p : List Addr} {H : Hp} {ws : List V} {ds : List D} {lo hi : Option Int} (h : Dens K p H ws ds) : Dens K p H (cutV ws lo hi) (cutD ds lo hi) := by
  unfold cutV cutD
  rw [h.length]
  exact (h.drop _).take _
theorem cutD_whole {ds : List D} {lo hi : Option Int} (h : HT.sIx ds.length 0 lo = 0 ∧ HT.sIx ds.length ds.length hi = ds.length) : cutD ds lo hi = ds := by
  unfold cutD
  rw [h.1, h.2]
  simp
theorem se_sl {lo hi : Option Expr} {ml mh : Option ME0} {p2 : Pos} (ha : SE X W a ma) (hl : PO X lo (tO X.K W (mPart ml))) (hh : PO X hi (tO X.K W (mPart mh))) : SE X W (.Subscript a (.Slice lo hi none p2) pos) (mSl ma ml mh) := by
  refine pe_imp (pe_slice (sl_tupA.or sl_list) ha hl hh) fun σ H Q ⟨p, G, e, rl, ev, h⟩ => ?_
  refine ⟨p, G, e, rl, ev, h.bind fun x G1 q H1 v pr t r1 dv h1 => ?_⟩
  refine ⟨q, G1, e, r1, ev.mono t pr, h1.bind fun l G2 q2 H2 l' pr2 t2 r2 dl h2 => ?_⟩
  refine ⟨q2, G2, e, r2, (ev.mono t pr).mono t2 pr2, h2.bind fun u G3 q3 H3 u' pr3 t3 r3 du h3 => ?_⟩
  subst dl du
  have dv3 := (dv.mono t2 pr2).mono t3 pr3
  unfold dSl at h3
  split at h3
  · rename_i ds
    obtain ⟨a, vs, rfl, ha, hxs⟩ := inv_tup dv3
    have hl := hxs.length
    refine .inl ⟨a, vs, rfl, .inl (.inl ha), fun z => ?_, fun z b hb => co_tup r3 hb (cut_den hxs) h3⟩
    rw [hl] at z
    rw [cutD_whole z] at h3
    exact h3.here r3 dv3
  · split at h3
    · rename_i g
      obtain ⟨a, rfl, ha⟩ := inv_ref dv3
      obtain ⟨vs, hl, hxs⟩ := r3.lst ha g
      exact .inr ⟨a, vs, rfl, .inl (.inl hl), fun b hb => co_new r3 hb (cut_den hxs) h3⟩
    · exact co_bad h3
  · exact co_bad h3
@[simp] def mTru (a : ME0) : En → Gp → R Bool := fun e G => (a e G).bind fun x G => dTru x G
theorem dens_empty {K : PySem.W.Frag} {p : List Addr} {H : Hp} {vs : List V} {ds : List D} (h : Dens K p H vs ds) : vs.isEmpty = ds.isEmpty := by cases h <;> rfl
theorem kvs_empty {K : PySem.W.Frag} {p : List Addr} {H : Hp} {vs : List (Key × V)} {ds : List (Key × D)} (h : KVs K p H vs ds) : vs.isEmpty = ds.isEmpty := by cases h <;> rfl
theorem tru_of {K : PySem.W.Frag} {σ : St} {p : List Addr} {G : Gp} {H : Hp} {v : V} {x : D} {Q : Bool → Hp → Prop} (r : Rel K p G H) (dv : Den K p H v x) (h : Co K W σ p H (fun _ _ (b c : Bool) => b = c) (dTru x G) Q) : ∃ k, TruV K v H k ∧ Q k H := by
  unfold dTru at h
  split at h
  · cases dv; exact ⟨false, rfl, h.here r rfl⟩
  · cases dv; exact ⟨_, rfl, h.here r rfl⟩
  · cases dv; exact ⟨_, rfl, h.here r rfl⟩
  · cases dv
    split at h
    · rename_i hb
      exact ⟨_, ⟨big_line hb, rfl⟩, h.here r rfl⟩
    · exact co_bad h
  · obtain ⟨a, vs, rfl, ha, hxs⟩ := inv_tup dv
    refine ⟨!vs.isEmpty, .inr (.inl ⟨vs, .inl (.inl ha), rfl⟩), ?_⟩
    rw [dens_empty hxs]
    exact h.here r rfl
  · obtain ⟨a, rfl, ha⟩ := inv_scr dv
    refine ⟨!(List.map V.int _).isEmpty, .inl ⟨_, ha.sq, rfl⟩, ?_⟩
    rw [List.isEmpty_map]
    exact h.here r rfl
  · exact co_bad h
  · split at h
    · rename_i g
      obtain ⟨a, rfl, ha⟩ := inv_ref dv
      obtain ⟨vs, hl, hxs⟩ := r.lst ha g
      refine ⟨!vs.isEmpty, .inl ⟨vs, .inl (.inl hl), rfl⟩, ?_⟩
      rw [dens_empty hxs]
      exact h.here r rfl
    · rename_i g
      obtain ⟨a, rfl, ha⟩ := inv_ref dv
      obtain ⟨vs, hl, hxs⟩ := r.dct ha g
      refine ⟨!vs.isEmpty, .inr (.inr ⟨vs, hl, rfl⟩), ?_⟩
      rw [kvs_empty hxs]
      exact h.here r rfl
    · exact co_bad h
theorem st_tru (ha : SE X W a ma) (he : ∀ whole, isTrue a X.env whole = (do let v ← whole; standAt a.pos; holding [v] (truthy v))) : ST X W a (mTru ma) := by
  refine pt_imp (pt_truth ha he) fun σ H Q ⟨p, G, e, rl, ev, h⟩ => ?_
  exact ⟨p, G, e, rl, ev, h.bind fun x G1 q H1 v pr t r1 dv h1 => tru_of r1 dv h1⟩
@[simp] def mNotT (t : En → Gp → R Bool) : En → Gp → R Bool := fun e G => (t e G).bind fun b G => .ok (!b) G
@[simp] def mAndT (t u : En → Gp → R Bool) : En → Gp → R Bool := fun e G => (t e G).bind fun b G => if b = true then u e G else .ok false G
@[simp] def mOrT (t u : En → Gp → R Bool) : En → Gp → R Bool := fun e G => (t e G).bind fun b G => if b = true then .ok true G else u e G
@[simp] def mIf (t : En → Gp → R Bool) (a b : ME0) : ME0 := fun e G => (t e G).bind fun k G => if k = true then a e G else b e G
/-- as values, bools -/
@[simp] def mAndV (a b : ME0) : ME0 := fun e G => (a e G).bind fun x G => match x with
  | .bl true => b e G
  | .bl false => .ok (.bl false) G
  | _ => .bad
@[simp] def mOrV (a b : ME0) : ME0 := fun e G => (a e G).bind fun x G => match x with
  | .bl true => .ok (.bl true) G
  | .bl false => b e G
  | _ => .bad
variable {ta tb : En → Gp → R Bool}
theorem read_not {σ : St} {H : Hp} {Q : Bool → Hp → Prop} (h : tT X.K W (mNotT ta) σ H Q) : tNot (tT X.K W ta) σ H Q := by
  obtain ⟨p, G, e, rl, ev, h⟩ := h
  refine ⟨p, G, e, rl, ev, h.bind fun b G1 q H1 b' pr t r1 dv h1 => ?_⟩
  subst dv
  exact h1.here r1 rfl
theorem read_and {σ : St} {H : Hp} {Q : Bool → Hp → Prop} (h : tT X.K W (mAndT ta tb) σ H Q) : tAnd (tT X.K W ta) (tT X.K W tb) σ H Q := by
  obtain ⟨p, G, e, rl, ev, h⟩ := h
  refine ⟨p, G, e, rl, ev, h.bind fun b G1 q H1 b' pr t r1 dv h1 => ?_⟩
  subst dv
  cases b' with
  | true => exact ⟨q, G1, e, r1, ev.mono t pr, h1⟩
  | false => exact Co.here (d := false) (G := G1) h1 r1 rfl
theorem read_or {σ : St} {H : Hp} {Q : Bool → Hp → Prop} (h : tT X.K W (mOrT ta tb) σ H Q) : tOr (tT X.K W ta) (tT X.K W tb) σ H Q := by
  obtain ⟨p, G, e, rl, ev, h⟩ := h
  refine ⟨p, G, e, rl, ev, h.bind fun b G1 q H1 b' pr t r1 dv h1 => ?_⟩
  subst dv
  cases b' with
  | true => exact Co.here (d := true) (G := G1) h1 r1 rfl
  | false => exact ⟨q, G1, e, r1, ev.mono t pr, h1⟩
theorem st_not (ha : ST X W a ta) : ST X W (.UnaryOp .Not a pos) (mNotT ta) := pt_imp (pt_not ha) fun _ _ _ h => read_not h
theorem se_if (hc : ST X W c ta) (ha : SE X W a ma) (hb : SE X W b mb) : SE X W (.IfExp c a b pos) (mIf ta ma mb) := by
  refine pe_imp (pe_ifExp hc ha hb) fun σ H Q ⟨p, G, e, rl, ev, h⟩ => ?_
  refine ⟨p, G, e, rl, ev, h.bind fun b G1 q H1 b' pr t r1 dv h1 => ?_⟩
  subst dv
  cases b' with
  | true => exact ⟨q, G1, e, r1, ev.mono t pr, h1⟩
  | false => exact ⟨q, G1, e, r1, ev.mono t pr, h1⟩
theorem se_notV (ha : SE X W a ma) : SE X W (.UnaryOp .Not a pos) (fun e G => (ma e G).bind fun x G => (dTru x G).bind fun b G => .ok (.bl (!b)) G) := by
  refine pe_imp (pe_notT ha) fun σ H Q ⟨p, G, e, rl, ev, h⟩ => ?_
  refine ⟨p, G, e, rl, ev, h.bind fun x G1 q H1 v pr t r1 dv h1 => ?_⟩
  refine tru_of (Q := fun k H' => Q (.bl (!k)) H') r1 dv (h1.bind fun k G2 q2 H2 k' pr2 t2 r2 dk h2 => ?_)
  subst dk
  exact h2.here r2 (.bl _)
theorem read_andV {σ : St} {H : Hp} {Q : VK} (h : tE X.K W (mAndV ma mb) σ H Q) : tAndV (tE X.K W ma) (tE X.K W mb) σ H Q := by
  obtain ⟨p, G, e, rl, ev, h⟩ := h
  refine ⟨p, G, e, rl, ev, h.bind fun x G1 q H1 v pr t r1 dv h1 => ?_⟩
  split at h1
  · cases inv_bl dv
    exact ⟨true, rfl, ⟨q, G1, e, r1, ev.mono t pr, h1⟩⟩
  · cases inv_bl dv
    exact ⟨false, rfl, h1.here r1 (.bl _)⟩
  · exact co_bad h1
theorem read_orV {σ : St} {H : Hp} {Q : VK} (h : tE X.K W (mOrV ma mb) σ H Q) : tOrV (tE X.K W ma) (tE X.K W mb) σ H Q := by
  obtain ⟨p, G, e, rl, ev, h⟩ := h
  refine ⟨p, G, e, rl, ev, h.bind fun x G1 q H1 v pr t r1 dv h1 => ?_⟩
  split at h1
  · cases inv_bl dv
    exact ⟨true, rfl, h1.here r1 (.bl _)⟩
  · cases inv_bl dv
    exact ⟨false, rfl, ⟨q, G1, e, r1, ev.mono t pr, h1⟩⟩
  · exact co_bad h1
end
end Mw
namespace Mw
open PySem L2
open PyProof.Rows hiding St
abbrev MA0 := En → Gp → R (List D)
@[simp] def maNil : MA0 := fun _ G => .ok [] G
@[simp] def maCons (a : ME0) (r : MA0) : MA0 := fun e G => (a e G).bind fun x G => (r e G).bind fun xs G => .ok (x :: xs) G
@[simp] def mTup (m : MA0) : ME0 := fun e G => (m e G).bind fun ds G => if ds.length ≤ big then .ok (.tup ds) G else .bad
@[simp] def mLst (m : MA0) : ME0 := fun e G => (m e G).bind fun ds G => if ds.length ≤ big then .ok (.ref G.length) (G ++ [.lst ds]) else .bad
@[simp] def mCall (f : List D → Gp → R D) (m : MA0) : ME0 := fun e G => (m e G).bind fun ds G => f ds G
section
variable {X : Cx} {W : WX} {a b c : Expr} {es : List Expr} {ma mb mc : ME0} {m : MA0} {pos : Pos}
theorem sa_nil : SA X W [] maNil := pa_imp pa_nil fun σ H Q ⟨p, G, e, rl, ev, h⟩ => Co.here (d := ([] : List D)) (G := G) h rl .nil
theorem sa_cons (ha : SE X W a ma) (hr : SA X W es m) (hs : starEach (a :: es) X.env = (false, eval a X.env) :: starEach es X.env) : SA X W (a :: es) (maCons ma m) := by
  refine pa_imp (pa_cons ha hr hs) fun σ H Q ⟨p, G, e, rl, ev, h⟩ => ?_
  refine ⟨p, G, e, rl, ev, h.bind fun x G1 q H1 v pr t r1 dv h1 => ?_⟩
  refine ⟨q, G1, e, r1, ev.mono t pr, h1.bind fun xs G2 q2 H2 vs pr2 t2 r2 dvs h2 => ?_⟩
  exact h2.here r2 (.cons (dv.mono t2 pr2) dvs)
theorem se_tup {k : Nat} (h : SA X W es m) : SE X W (.Tuple es k pos) (mTup m) := by
  refine pe_imp (pe_tup h) fun σ H Q ⟨p, G, e, rl, ev, h⟩ => ?_
  refine ⟨p, G, e, rl, ev, h.bind fun ds G1 q H1 vs pr t r1 dv h1 => ?_⟩
  split at h1
  · rename_i hl
    exact ⟨big_line (by rw [dv.length]; exact hl), fun b hb => co_tup r1 hb dv h1⟩
  · exact co_bad h1
theorem se_lst (h : SA X W es m) : SE X W (.List es pos) (mLst m) := by
  refine pe_imp (pe_lst h) fun σ H Q ⟨p, G, e, rl, ev, h⟩ => ?_
  refine ⟨p, G, e, rl, ev, h.bind fun ds G1 q H1 vs pr t r1 dv h1 => ?_⟩
  split at h1
  · rename_i hl
    exact ⟨big_line (by rw [dv.length]; exact hl), fun b hb => co_new r1 hb dv h1⟩
  · exact co_bad h1
/-- a call by values does a plain one -/
def CbM (K : PySem.W.Frag) (r : List V → Hp → VK → Prop) (f : List D → Gp → R D) : Prop := ∀ (W : WX) (σ : St) (p : List Addr) (G : Gp) (H : Hp) (vs : List V) (ds : List D) (Q : VK), Rel K p G H → Dens K p H vs ds → Co K W σ p H (Den K) (f ds G) Q → r vs H Q
theorem read_cb {r : List V → Hp → VK → Prop} {f : List D → Gp → R D} (hf : CbM X.K r f) {σ : St} {H : Hp} {Q : VK} (h : tE X.K W (mCall f m) σ H Q) : tCB r (tA X.K W m) σ H Q := by
  obtain ⟨p, G, e, rl, ev, h⟩ := h
  exact ⟨p, G, e, rl, ev, h.bind fun ds G1 q H1 vs pr t r1 dv h1 => hf W σ q G1 H1 vs ds Q r1 dv h1⟩
theorem se_cb {id : String} {x : Str} {r : List V → Hp → VK → Prop} {f : List D → Gp → R D} {p0 : Pos} (hc : CallR X (.builtin id) r) (hf : CbM X.K r f) (hg : Gl X x) (hm : X.mg x = none) (hv : bootBuiltins x = some (.builtin id)) (ha : SA X W (a :: es) m) (hn : x ≠ "__name__") (hdb : (x == ("__debug__" : Str)) = false)
    (he : starEach (a :: es) X.env = (false, eval a X.env) :: starEach es X.env) (hpl : (backTo pos (starEach es X.env)).any (·.1) = false) : SE X W (.Call (.Name x p0) (a :: es) [] pos) (mCall f m) :=
  pe_imp (pe_callB hc hg hm hv ha hn hdb he hpl) fun _ _ _ h => read_cb hf h
theorem se_cty {T : String} {x : Str} {r : List V → Hp → VK → Prop} {f : List D → Gp → R D} {p0 : Pos} (hc : CallR X (.type T) r) (hf : CbM X.K r f) (hg : Gl X x) (hm : X.mg x = none) (hv : bootBuiltins x = some (.type T)) (ha : SA X W (a :: es) m) (hn : x ≠ "__name__") (hdb : (x == ("__debug__" : Str)) = false)
    (he : starEach (a :: es) X.env = (false, eval a X.env) :: starEach es X.env) (hpl : (backTo pos (starEach es X.env)).any (·.1) = false) : SE X W (.Call (.Name x p0) (a :: es) [] pos) (mCall f m) :=
  pe_imp (pe_callTy hc hg hm hv ha hn hdb he hpl) fun _ _ _ h => read_cb hf h
def fLen : List D → Gp → R D
  | [x], G => dLen x G
  | _, _ => .bad
def fMax : List D → Gp → R D
  | [.int i, .int j], G => .ok (.int (max i j)) G
  | _, _ => .bad
def fMin : List D → Gp → R D
  | [.int i, .int j], G => .ok (.int (min i j)) G
  | _, _ => .bad
def fInt : List D → Gp → R D
  | [.int i], G => .ok (.int i) G
  | [.bl b], G => .ok (.int (if b then 1 else 0)) G
  | _, _ => .bad
def fList : List D → Gp → R D
  | [.tup ds], G => .ok (.ref G.length) (G ++ [.lst ds])
  | [.ref n], G => (match G[n]? with
    | some (.lst ds) => .ok (.ref G.length) (G ++ [.lst ds])
    | _ => .bad)
  | _, _ => .bad
def fTuple : List D → Gp → R D
  | [.tup ds], G => .ok (.tup ds) G
  | [.ref n], G => (match G[n]? with
    | some (.lst ds) => .ok (.tup ds) G
    | _ => .bad)
  | _, _ => .bad
def putD (kvs : List (Key × D)) (k : Key) (v : D) : List (Key × D) :=
  if (kvs.any fun kv => decide (kv.1 = k)) = true then kvs.map (fun kv => if kv.1 = k then (kv.1, v) else kv) else kvs ++ [(k, v)]
def dropD (kvs : List (Key × D)) (k : Key) : List (Key × D) := kvs.filter fun kv => decide (kv.1 ≠ k)
def mergeD (kvs more : List (Key × D)) : List (Key × D) := more.foldl (fun acc kv => putD acc kv.1 kv.2) kvs
def pairs? : List D → Option (List (Key × D))
  | [] => some []
  | .tup [k, v] :: r => (match keyD k, pairs? r with
    | some k, some r => some ((k, v) :: r)
    | _, _ => none)
  | _ :: _ => none
def fDict : List D → Gp → R D
  | [.ref n], G => (match G[n]? with
    | some (.lst ds) => (match pairs? ds with
      | some kvs => .ok (.ref G.length) (G ++ [.dct (mergeD [] kvs)])
      | none => .bad)
    | _ => .bad)
  | _, _ => .bad
def strs? : List Key → Option (List Str)
  | [] => some []
  | .inr x :: r => (strs? r).map (x :: ·)
  | _ :: _ => none
def leS (x y : Str) : Bool := !decide (y.cps.toList < x.cps.toList)
def sortI (ns : List Int) : List Int := ns.mergeSort (fun a b => decide (a ≤ b))
def sortS (xs : List Str) : List Str := xs.mergeSort leS
def fSorted : List D → Gp → R D
  | [.ref n], G => (match G[n]? with
    | some (.lst ds) => (match ints? ds with
      | some ns => .ok (.ref G.length) (G ++ [.lst ((sortI ns).map .int)])
      | none => .bad)
    | some (.dct kvs) => (match strs? (kvs.map (·.1)) with
      | some xs => if xs.length < 64 then .ok (.ref G.length) (G ++ [.lst ((sortS xs).map .str)]) else .bad
      | none => .bad)
    | _ => .bad)
  | _, _ => .bad
variable {K : PySem.W.Frag}
theorem inv1 {p : List Addr} {H : Hp} {vs : List V} {x : D} (h : Dens K p H vs [x]) : ∃ v, vs = [v] ∧ Den K p H v x := by
  cases h with
  | cons h1 h2 => cases h2; exact ⟨_, rfl, h1⟩
theorem inv2 {p : List Addr} {H : Hp} {vs : List V} {x y : D} (h : Dens K p H vs [x, y]) : ∃ v w, vs = [v, w] ∧ Den K p H v x ∧ Den K p H w y := by
  cases h with
  | cons h1 h2 =>
    obtain ⟨w, rfl, h3⟩ := inv1 h2
    exact ⟨_, w, rfl, h1, h3⟩
theorem kvs_len {p : List Addr} {H : Hp} : ∀ {vs : List (Key × V)} {ds : List (Key × D)}, KVs K p H vs ds → vs.length = ds.length
  | _, _, .nil => rfl
  | _, _, .cons _ hs => by rw [List.length_cons, List.length_cons, kvs_len hs]
theorem kvs_keys {p : List Addr} {H : Hp} : ∀ {vs : List (Key × V)} {ds : List (Key × D)}, KVs K p H vs ds → vs.map (·.1) = ds.map (·.1)
  | _, _, .nil => rfl
  | _, _, .cons _ hs => by rw [List.map_cons, List.map_cons, kvs_keys hs]
def rLenA (K : PySem.W.Frag) : List V → Hp → VK → Prop := fun xs H Q => ((∃ p ys, xs = [.ref p] ∧ (SqL K H p ys ∨ SqT K H p ys) ∧ Q (.int ys.length) H) ∨ ∃ z, xs = [.str z] ∧ z.length ≤ sizeLine ∧ Q (.int z.length) H) ∨ ∃ a kvs, xs = [V.ref a] ∧ H a = some (.dK kvs) ∧ Q (.int kvs.length) H
theorem cb_len : CbM K (rLenA K) fLen := by
  intro W σ p G H vs ds Q r hd h
  unfold fLen at h
  split at h
  · obtain ⟨v, rfl, dv⟩ := inv1 hd
    unfold dLen at h
    split at h
    · split at h
      · rename_i hb
        cases inv_str dv
        exact .inl (.inr ⟨_, rfl, big_line hb, h.here r (.int _)⟩)
      · exact co_bad h
    · obtain ⟨a, vs, rfl, ha, hxs⟩ := inv_tup dv
      refine .inl (.inl ⟨a, vs, rfl, .inr (.inl (.inl ha)), ?_⟩)
      rw [hxs.length]
      exact h.here r (.int _)
    · obtain ⟨a, rfl, ha⟩ := inv_scr dv
      refine .inl (.inl ⟨a, _, rfl, .inl ha.sq, ?_⟩)
      rw [List.length_map]
      exact h.here r (.int _)
    · split at h
      · rename_i g
        obtain ⟨a, rfl, ha⟩ := inv_ref dv
        obtain ⟨vs, hl, hxs⟩ := r.lst ha g
        refine .inl (.inl ⟨a, vs, rfl, .inl (.inl (.inl hl)), ?_⟩)
        rw [hxs.length]
        exact h.here r (.int _)
      · rename_i g
        obtain ⟨a, rfl, ha⟩ := inv_ref dv
        obtain ⟨vs, hl, hxs⟩ := r.dct ha g
        refine .inr ⟨a, vs, rfl, hl, ?_⟩
        rw [kvs_len hxs]
        exact h.here r (.int _)
      · exact co_bad h
    · exact co_bad h
  · exact co_bad h
theorem cb_max : CbM K (fun xs H Q => ∃ i j, xs = [.int i, .int j] ∧ Q (.int (if j > i then j else i)) H) fMax := by
  intro W σ p G H vs ds Q r hd h
  unfold fMax at h
  split at h
  · rename_i i j
    obtain ⟨v, w, rfl, d1, d2⟩ := inv2 hd
    cases inv_int d1
    cases inv_int d2
    refine ⟨i, j, rfl, ?_⟩
    rw [show (if j > i then j else i) = max i j by split <;> omega]
    exact h.here r (.int _)
  · exact co_bad h
theorem cb_min : CbM K (fun xs H Q => ∃ i j, xs = [.int i, .int j] ∧ Q (.int (if j < i then j else i)) H) fMin := by
  intro W σ p G H vs ds Q r hd h
  unfold fMin at h
  split at h
  · rename_i i j
    obtain ⟨v, w, rfl, d1, d2⟩ := inv2 hd
    cases inv_int d1
    cases inv_int d2
    refine ⟨i, j, rfl, ?_⟩
    rw [show (if j < i then j else i) = min i j by split <;> omega]
    exact h.here r (.int _)
  · exact co_bad h
theorem cb_int : CbM K (fun xs H Q => (∃ i, xs = [.int i] ∧ Q (.int i) H) ∨ ∃ k, xs = [.bl k] ∧ Q (.int (if k then 1 else 0)) H) fInt := by
  intro W σ p G H vs ds Q r hd h
  unfold fInt at h
  split at h
  · obtain ⟨v, rfl, dv⟩ := inv1 hd
    cases inv_int dv
    exact .inl ⟨_, rfl, h.here r (.int _)⟩
  · obtain ⟨v, rfl, dv⟩ := inv1 hd
    cases inv_bl dv
    exact .inr ⟨_, rfl, h.here r (.int _)⟩
  · exact co_bad h
theorem cb_list : CbM K (fun xs H Q => ∃ p ys, xs = [.ref p] ∧ (SqL K H p ys ∨ SqT K H p ys) ∧ ∀ l, H l = none → Q (.ref l) (upd H l (.lst ys))) fList := by
  intro W σ p G H vs ds Q r hd h
  unfold fList at h
  split at h
  · obtain ⟨v, rfl, dv⟩ := inv1 hd
    obtain ⟨a, vs, rfl, ha, hxs⟩ := inv_tup dv
    exact ⟨a, vs, rfl, .inr (.inl (.inl ha)), fun b hb => co_new r hb hxs h⟩
  · obtain ⟨v, rfl, dv⟩ := inv1 hd
    split at h
    · rename_i g
      obtain ⟨a, rfl, ha⟩ := inv_ref dv
      obtain ⟨vs, hl, hxs⟩ := r.lst ha g
      exact ⟨a, vs, rfl, .inl (.inl (.inl hl)), fun b hb => co_new r hb hxs h⟩
    · exact co_bad h
  · exact co_bad h
theorem cb_tuple : CbM K (fun xs H Q => ∃ p ys, xs = [.ref p] ∧ ((SqL K H p ys ∧ ∀ l, H l = none → Q (.ref l) (upd H l (.tup ys))) ∨ (SqT K H p ys ∧ Q (.ref p) H))) fTuple := by
  intro W σ p G H vs ds Q r hd h
  unfold fTuple at h
  split at h
  · obtain ⟨v, rfl, dv⟩ := inv1 hd
    obtain ⟨a, vs, rfl, ha, hxs⟩ := inv_tup dv
    exact ⟨a, vs, rfl, .inr ⟨.inl (.inl ha), h.here r dv⟩⟩
  · obtain ⟨v, rfl, dv⟩ := inv1 hd
    split at h
    · rename_i g
      obtain ⟨a, rfl, ha⟩ := inv_ref dv
      obtain ⟨vs, hl, hxs⟩ := r.lst ha g
      exact ⟨a, vs, rfl, .inl ⟨.inl (.inl hl), fun b hb => co_tup r hb hxs h⟩⟩
    · exact co_bad h
  · exact co_bad h
theorem kvs_put {p : List Addr} {H : Hp} {k : Key} {v : V} {d : D} (hd : Den K p H v d) {vs : List (Key × V)} {ds : List (Key × D)} (h : KVs K p H vs ds) : KVs K p H (putK vs k v) (putD ds k d) := by
  have any_eq : ∀ {vs : List (Key × V)} {ds : List (Key × D)}, KVs K p H vs ds → (vs.any fun kv => decide (kv.1 = k)) = (ds.any fun kv => decide (kv.1 = k)) := by
    intro vs ds h
    induction h with
    | nil => rfl
    | cons h1 h2 ih => rw [List.any_cons, List.any_cons, ih]
  have map_eq : ∀ {vs : List (Key × V)} {ds : List (Key × D)}, KVs K p H vs ds → KVs K p H (vs.map (fun kv => if kv.1 = k then (kv.1, v) else kv)) (ds.map (fun kv => if kv.1 = k then (kv.1, d) else kv)) := by
    intro vs ds h
    induction h with
    | nil => exact .nil
    | @cons k' v' d' vs ds h1 h2 ih =>
      rw [List.map_cons, List.map_cons]
      by_cases hk : k' = k
      · rw [if_pos hk, if_pos hk]; exact .cons hd ih
      · rw [if_neg hk, if_neg hk]; exact .cons h1 ih
  have app_eq : ∀ {vs : List (Key × V)} {ds : List (Key × D)}, KVs K p H vs ds → KVs K p H (vs ++ [(k, v)]) (ds ++ [(k, d)]) := by
    intro vs ds h
    induction h with
    | nil => exact .cons hd .nil
    | cons h1 h2 ih => exact .cons h1 ih
  unfold putK putD
  rw [any_eq h]
  split
  · exact map_eq h
  · exact app_eq h
theorem kvs_drop {p : List Addr} {H : Hp} {k : Key} {vs : List (Key × V)} {ds : List (Key × D)} (h : KVs K p H vs ds) : KVs K p H (dropK vs k) (dropD ds k) := by
  unfold dropK dropD
  induction h with
  | nil => exact .nil
  | @cons k' v' d' vs ds h1 h2 ih =>
    rw [List.filter_cons, List.filter_cons]
    split
    · rename_i hk
      exact .cons h1 ih
    · exact ih
theorem kvs_merge {p : List Addr} {H : Hp} {vs : List (Key × V)} {ds : List (Key × D)} (h : KVs K p H vs ds) : ∀ {ws : List (Key × V)} {cs : List (Key × D)}, KVs K p H ws cs → KVs K p H (mergeK ws vs) (mergeD cs ds) := by
  induction h with
  | nil => exact fun h => h
  | cons h1 h2 ih => exact fun h => ih (kvs_put h1 h)
/-- the pairs of a list, as the call of dict reads them -/
theorem pairs_ok {p : List Addr} {H : Hp} : ∀ {ds : List D} {kvs : List (Key × D)} {vs : List V}, pairs? ds = some kvs → Dens K p H vs ds → ∃ (ps : List Addr) (ws : List (Key × V)), vs = ps.map V.ref ∧ Paired (fun p kv => SqT K H p [kV kv.1, kv.2]) ps ws ∧ KVs K p H ws kvs
  | [], kvs, vs, e, h => by
    cases h
    cases e
    exact ⟨[], [], rfl, .nil, .nil⟩
  | d :: ds, kvs, vs, e, h => by
    cases h with
    | cons h1 h2 =>
      unfold pairs? at e
      split at e
      · cases ‹_ :: _ = []›
      · rename_i k v r q
        cases q
        split at e
        · rename_i k' r' e1 e2
          cases e
          obtain ⟨ps, ws, rfl, hp, hk⟩ := pairs_ok e2 h2
          obtain ⟨a, us, rfl, ha, hus⟩ := inv_tup h1
          obtain ⟨v1, v2, rfl, d1, d2⟩ := inv2 hus
          cases den_key d1 e1
          exact ⟨a :: ps, (k', v2) :: ws, rfl, .cons (.inl (.inl ha)) hp, .cons d2 hk⟩
        · cases e
      · cases e
theorem cb_dict : CbM K (fun xs H Q => ∃ (a : Addr) (ps : List Addr) (kvs : List (Key × V)), xs = [.ref a] ∧ SqL K H a (ps.map V.ref) ∧ Paired (fun p kv => SqT K H p [kV kv.1, kv.2]) ps kvs ∧ ∀ p, H p = none → Q (.ref p) (upd H p (.dK (mergeK [] kvs)))) fDict := by
  intro W σ p G H vs ds Q r hd h
  unfold fDict at h
  split at h
  · obtain ⟨v, rfl, dv⟩ := inv1 hd
    split at h
    · rename_i g
      split at h
      · rename_i kvs e
        obtain ⟨a, rfl, ha⟩ := inv_ref dv
        obtain ⟨vs, hl, hxs⟩ := r.lst ha g
        obtain ⟨ps, ws, rfl, hp, hk⟩ := pairs_ok e hxs
        refine ⟨a, ps, ws, rfl, .inl (.inl hl), hp, fun b hb => ?_⟩
        exact h (p ++ [b]) _ (.ref b) (pre_app p b) (Tu.new hb) (r.new hb ⟨_, upd_same, (kvs_merge hk .nil).mono (Tu.new hb) (pre_app p b)⟩) (.ref (by rw [← r.len, List.getElem?_append_right (Nat.le_refl _), Nat.sub_self]; rfl))
      · exact co_bad h
    · exact co_bad h
  · exact co_bad h
theorem ints_ok {p : List Addr} {H : Hp} : ∀ {ds : List D} {ns : List Int} {vs : List V}, ints? ds = some ns → Dens K p H vs ds → vs = ns.map V.int
  | [], ns, vs, e, h => by
    cases h
    cases e
    rfl
  | d :: ds, ns, vs, e, h => by
    cases h with
    | cons h1 h2 =>
      unfold ints? at e
      split at e
      · cases ‹_ :: _ = []›
      · rename_i i r q
        cases q
        cases e2 : ints? ds with
        | none => rw [e2] at e; cases e
        | some ms =>
          rw [e2] at e
          cases e
          rw [ints_ok e2 h2, inv_int h1]
          rfl
      · cases e
theorem dens_ints {p : List Addr} {H : Hp} : ∀ ns : List Int, Dens K p H (ns.map V.int) (ns.map D.int)
  | [] => .nil
  | n :: r => .cons (.int n) (dens_ints r)
theorem dens_strs {p : List Addr} {H : Hp} : ∀ ns : List Str, Dens K p H (ns.map V.str) (ns.map D.str)
  | [] => .nil
  | n :: r => .cons (.str n) (dens_strs r)
theorem sortI_unique {a b : List Int} (h : a.Perm b) (s : a.Pairwise (· ≤ ·)) : a = sortI b := by
  refine PySem.W.ksm_same (h.trans (List.mergeSort_perm _ _).symm) s ?_
  have := List.pairwise_mergeSort (le := fun a b : Int => decide (a ≤ b)) (fun a b c h1 h2 => by simp at *; omega) (fun a b => by simp; omega) b
  exact this.imp fun h => by simpa using h
theorem strs_ok : ∀ {ks : List Key} {xs : List Str}, strs? ks = some xs → ks = xs.map Sum.inr
  | [], xs, e => by cases e; rfl
  | k :: ks, xs, e => by
    unfold strs? at e
    split at e
    · cases ‹_ :: _ = []›
    · rename_i x r q
      cases q
      cases e2 : strs? ks with
      | none => rw [e2] at e; cases e
      | some ms =>
        rw [e2] at e
        cases e
        rw [strs_ok e2]
        rfl
    · cases e

theorem leS_iff {x y : Str} : leS x y = true ↔ x.cps.toList ≤ y.cps.toList := by
  unfold leS
  rw [Bool.not_eq_true', decide_eq_false_iff_not]
  exact List.not_lt
theorem leS_trans {x y z : Str} (h1 : leS x y = true) (h2 : leS y z = true) : leS x z = true := leS_iff.mpr (List.le_trans (leS_iff.mp h1) (leS_iff.mp h2))
theorem leS_total (x y : Str) : (leS x y || leS y x) = true := by
  rw [Bool.or_eq_true, leS_iff, leS_iff]
  exact List.le_total _ _
theorem cps_inj {x y : Str} (h : x.cps.toList = y.cps.toList) : x = y := by
  obtain ⟨⟨a⟩⟩ := x
  obtain ⟨⟨b⟩⟩ := y
  cases h
  rfl
theorem leS_anti {x y : Str} (h1 : leS x y = true) (h2 : leS y x = true) : x = y := cps_inj (List.le_antisymm (leS_iff.mp h1) (leS_iff.mp h2))
theorem rising_pw : ∀ {l : List Str} {x : Str}, risingS x l = true → (x :: l).Pairwise (fun a b => leS a b = true)
  | [], x, _ => by simp
  | y :: l, x, h => by
    unfold risingS at h
    rw [Bool.and_eq_true, Bool.not_eq_true', PyProof.Rows.ltCps_eq] at h
    have hxy : leS x y = true := by unfold leS; rw [h.1]; rfl
    have ih := rising_pw h.2
    rw [List.pairwise_cons] at ih ⊢
    refine ⟨fun z hz => ?_, List.pairwise_cons.mpr ih⟩
    rcases List.mem_cons.mp hz with rfl | hz
    · exact hxy
    · exact leS_trans hxy (ih.1 z hz)
theorem sortedS_pw {l : List Str} (h : sortedS l = true) : l.Pairwise (fun a b => leS a b = true) := by
  cases l with
  | nil => exact .nil
  | cons x l => exact rising_pw h
theorem sortS_pw (b : List Str) : (sortS b).Pairwise (fun a b => leS a b = true) := List.pairwise_mergeSort (le := leS) (fun _ _ _ => leS_trans) leS_total b
theorem sortS_unique {a b : List Str} (h : a.Perm b) (s : a.Pairwise (fun a b => leS a b = true)) : a = sortS b :=
  List.Perm.eq_of_pairwise (fun x y _ _ h1 h2 => leS_anti h1 h2) s (sortS_pw b) (h.trans (List.mergeSort_perm _ _).symm)
def rSortA (K : PySem.W.Frag) : List V → Hp → VK → Prop := fun xs H Q => rSortedI K xs H Q ∨ ∃ (a : Addr) (kvs : List (Key × V)) (ks : List Str), xs = [.ref a] ∧ Rd H a (.dK kvs) ∧ kvs.map (·.1) = ks.map Sum.inr ∧ ks.length < 64 ∧
    ∀ ys p, ys.Perm ks → sortedS ys = true → H p = none → Q (.ref p) (upd H p (.lst (ys.map V.str)))
theorem cb_sorted : CbM K (rSortA K) fSorted := by
  intro W σ p G H vs ds Q r hd h
  unfold fSorted at h
  split at h
  · obtain ⟨v, rfl, dv⟩ := inv1 hd
    obtain ⟨a, rfl, ha⟩ := inv_ref dv
    split at h
    · rename_i g
      split at h
      · rename_i ns e
        obtain ⟨vs, hl, hxs⟩ := r.lst ha g
        cases ints_ok e hxs
        refine .inl ⟨a, ns, rfl, .inl (.inl hl), fun ns' b hp hs hb => ?_⟩
        cases sortI_unique hp hs
        exact co_new r hb (dens_ints _) h
      · exact co_bad h
    · rename_i g
      split at h
      · rename_i xs e
        split at h
        · rename_i h64
          obtain ⟨ws, hl, hk⟩ := r.dct ha g
          refine .inr ⟨a, ws, xs, rfl, .inl hl, by rw [kvs_keys hk]; exact strs_ok e, h64, fun ys b hp hs hb => ?_⟩
          cases sortS_unique hp (sortedS_pw hs)
          exact co_new r hb (dens_strs _) h
        · exact co_bad h
      · exact co_bad h
    · exact co_bad h
  · exact co_bad h
@[simp] def mIsi (t : Ty) (a : ME0) : En → Gp → R Bool := fun e G => (a e G).bind fun x G => dIsi x t G
theorem se_isi {t : Ty} {p1 p2 : Pos} (ha : SE X W a ma) (hgI : Gl X "isinstance") (hmI : X.mg "isinstance" = none) (hgT : Gl X (Str.ofString t.nm)) (hmT : X.mg (Str.ofString t.nm) = none)
    (he : starEach [a, .Name (Str.ofString t.nm) p2] X.env = (false, eval a X.env) :: starEach [.Name (Str.ofString t.nm) p2] X.env) : SE X W (.Call (.Name "isinstance" p1) [a, .Name (Str.ofString t.nm) p2] [] pos) (mOfB (mIsi t ma)) := by
  have hT : PE X (.Name (Str.ofString t.nm) p2) (tC (.ty t.nm)) := by
    cases t
    · exact pe_bltn hgT hmT (by decide +kernel : bootBuiltins (Str.ofString "int") = some (.type "int")) rfl (by decide +kernel) (by decide +kernel)
    · exact pe_bltn hgT hmT (by decide +kernel : bootBuiltins (Str.ofString "bool") = some (.type "bool")) rfl (by decide +kernel) (by decide +kernel)
    · exact pe_bltn hgT hmT (by decide +kernel : bootBuiltins (Str.ofString "str") = some (.type "str")) rfl (by decide +kernel) (by decide +kernel)
    · exact pe_bltn hgT hmT (by decide +kernel : bootBuiltins (Str.ofString "tuple") = some (.type "tuple")) rfl (by decide +kernel) (by decide +kernel)
    · exact pe_bltn hgT hmT (by decide +kernel : bootBuiltins (Str.ofString "list") = some (.type "list")) rfl (by decide +kernel) (by decide +kernel)
  refine pe_imp (pe_callB call_isi hgI hmI (by decide +kernel) (pa_cons ha (pa_cons hT pa_nil rfl) he) (by decide) (by decide) he rfl) fun σ H Q ⟨p, G, e, rl, ev, h⟩ => ?_
  have h' : Co X.K W σ p H (Den X.K) ((ma e G).bind fun x G => (dIsi x t G).bind fun b G => .ok (D.bl b) G) Q := by
    unfold mOfB mIsi at h
    cases hm : ma e G <;> rw [hm] at h <;> exact h
  refine ⟨p, G, e, rl, ev, h'.bind fun x G1 q H1 v pr t1 r1 dv h1 => ?_⟩
  show rIsi X.K [v, .ty t.nm] H1 Q
  have go : ∀ (ty : String) (b : Bool), TyX X.K H1 v (.type ty) → kitB ty t.nm = some b → dIsi x t G1 = .ok b G1 → rIsi X.K [v, .ty t.nm] H1 Q := fun ty b h2 h3 h4 => by
    rw [h4, R.bind_ok] at h1
    exact ⟨v, _, _, _, b, rfl, .ty _, h2, kit_ty h3, h1.here r1 (.bl b)⟩
  cases x with
  | non => cases dv; cases t <;> exact go "NoneType" _ (.base .non) (by decide +kernel) rfl
  | bl b => cases dv; cases t <;> exact go "bool" _ (.base (.bl b)) (by decide +kernel) rfl
  | int b => cases dv; cases t <;> exact go "int" _ (.base (.int b)) (by decide +kernel) rfl
  | str b => cases dv; cases t <;> exact go "str" _ (.base (.str b)) (by decide +kernel) rfl
  | tup ds =>
    obtain ⟨a, vs, rfl, ha, hxs⟩ := inv_tup dv
    cases t <;> exact go "tuple" _ (.base (.tup ha)) (by decide +kernel) rfl
  | scr ns => exact co_bad (α := D) h1
  | exn _ _ => exact co_bad (α := D) h1
  | ref n =>
    obtain ⟨a, rfl, ha⟩ := inv_ref dv
    have hi : dIsi (.ref n) t G1 = (match G1[n]? with
      | some (.lst _) => .ok t.isLst G1
      | some (.dct _) => .ok false G1
      | _ => .bad) := rfl
    cases g : G1[n]? with
    | none => rw [hi, g] at h1; exact co_bad (α := D) h1
    | some o =>
      cases o with
      | lst ds =>
        obtain ⟨vs, hl, hxs⟩ := r1.lst ha g
        rw [g] at hi
        cases t <;> exact go "list" _ (.base (.lst hl)) (by decide +kernel) hi
      | dct ds =>
        obtain ⟨vs, hl, hxs⟩ := r1.dct ha g
        rw [g] at hi
        cases t <;> exact go "dict" _ (.base (.dK hl)) (by decide +kernel) hi
      | ins fs => rw [hi, g] at h1; exact co_bad (α := D) h1
end
end Mw
namespace Mw
open PySem L2
open PyProof.Rows hiding St
mutual
def D.beq : D → D → Bool
  | .non, .non => true
  | .bl a, .bl b => a == b
  | .int a, .int b => decide (a = b)
  | .str a, .str b => decide (a = b)
  | .tup a, .tup b => beqs a b
  | .ref a, .ref b => decide (a = b)
  | .scr a, .scr b => decide (a = b)
  | .exn a c, .exn b d => decide (a = b) && decide (c = d)
  | _, _ => false
def beqs : List D → List D → Bool
  | [], [] => true
  | a :: r, b :: s => D.beq a b && beqs r s
  | _, _ => false
end
mutual
theorem D.beq_eq : ∀ {a b : D}, D.beq a b = true → a = b
  | .non, b, h => by cases b <;> first | rfl | (unfold D.beq at h; cases h)
  | .bl a, b, h => by
    cases b <;> first | (unfold D.beq at h; cases h; done) | skip
    unfold D.beq at h
    rw [eq_of_beq h]
  | .int a, b, h => by
    cases b <;> first | (unfold D.beq at h; cases h; done) | skip
    unfold D.beq at h
    rw [of_decide_eq_true h]
  | .str a, b, h => by
    cases b <;> first | (unfold D.beq at h; cases h; done) | skip
    unfold D.beq at h
    rw [of_decide_eq_true h]
  | .tup a, b, h => by
    cases b <;> first | (unfold D.beq at h; cases h; done) | skip
    unfold D.beq at h
    rw [beqs_eq h]
  | .ref a, b, h => by
    cases b <;> first | (unfold D.beq at h; cases h; done) | skip
    unfold D.beq at h
    rw [of_decide_eq_true h]
  | .scr a, b, h => by
    cases b <;> first | (unfold D.beq at h; cases h; done) | skip
    unfold D.beq at h
    rw [of_decide_eq_true h]
  | .exn a c, b, h => by
    cases b <;> first | (unfold D.beq at h; cases h; done) | skip
    unfold D.beq at h
    rw [Bool.and_eq_true] at h
    rw [of_decide_eq_true h.1, of_decide_eq_true h.2]
theorem beqs_eq : ∀ {a b : List D}, beqs a b = true → a = b
  | [], b, h => by cases b <;> first | rfl | (unfold beqs at h; cases h)
  | x :: r, b, h => by
    cases b with
    | nil => unfold beqs at h; cases h
    | cons y s =>
      unfold beqs at h
      rw [Bool.and_eq_true] at h
      rw [D.beq_eq h.1, beqs_eq h.2]
end
mutual
theorem D.beq_self : ∀ a : D, D.beq a a = true
  | .non => by unfold D.beq; rfl
  | .bl a => by unfold D.beq; exact beq_self_eq_true a
  | .int a => by unfold D.beq; exact decide_eq_true rfl
  | .str a => by unfold D.beq; exact decide_eq_true rfl
  | .tup a => by unfold D.beq; exact beqs_self a
  | .ref a => by unfold D.beq; exact decide_eq_true rfl
  | .scr a => by unfold D.beq; exact decide_eq_true rfl
  | .exn a c => by unfold D.beq; rw [Bool.and_eq_true]; exact ⟨decide_eq_true rfl, decide_eq_true rfl⟩
theorem beqs_self : ∀ a : List D, beqs a a = true
  | [] => by unfold beqs; rfl
  | x :: r => by unfold beqs; rw [D.beq_self x, beqs_self r]; rfl
end
/-- the items, and the list (a place of the plain heap) that is not to change meanwhile -/
inductive At where
  | lst (n : Nat) | enu (n : Nat)
instance : Coe Nat At := ⟨At.lst⟩
structure Src where
  ds : List D
  at_ : Option At
def enumD (ds : List D) : List D := ds.zipIdx.map fun x => .tup [.int (x.2 : Nat), x.1]
def Src.still (s : Src) (G : Gp) : Bool := match s.at_ with
  | none => true
  | some (.lst n) => (match G[n]? with
    | some (.lst ds) => beqs ds s.ds
    | _ => false)
  | some (.enu n) => (match G[n]? with
    | some (.lst ds) => beqs (enumD ds) s.ds
    | _ => false)
theorem Src.still_none {ds : List D} {G : Gp} : (Src.mk ds none).still G = true := rfl
theorem Src.still_some {ds : List D} {n : Nat} {G : Gp} (h : G[n]? = some (.lst ds)) : (Src.mk ds (some n)).still G = true := by
  show (match G[n]? with
    | some (.lst es) => beqs es ds
    | _ => false) = true
  rw [h]
  exact beqs_self ds
theorem Src.still_enu {ds : List D} {n : Nat} {G : Gp} (h : G[n]? = some (.lst ds)) : (Src.mk (enumD ds) (some (.enu n))).still G = true := by
  show (match G[n]? with
    | some (.lst es) => beqs (enumD es) (enumD ds)
    | _ => false) = true
  rw [h]
  exact beqs_self _
structure ItM (K : PySem.W.Frag) (p : List Addr) (H : Hp) (J : It) (s : Src) : Prop where
  stop : ∀ q G H', p <+: q → Tu H H' → Rel K q G H' → s.still G = true → J.stop s.ds.length H'
  go : ∀ (i : Nat) (d : D) q G H', p <+: q → Tu H H' → Rel K q G H' → s.still G = true → s.ds[i]? = some d → J.go i H' ∧ ∀ x H2, J.yld i H' x H2 → Tu H' H2 ∧ Rel K q G H2 ∧ Den K q H2 x d
theorem ItM.later {K : PySem.W.Frag} {p q : List Addr} {H H' : Hp} {J : It} {s : Src} (h : ItM K p H J s) (pr : p <+: q) (t : Tu H H') : ItM K q H' J s :=
  ⟨fun q2 G H2 p2 t2 => h.stop q2 G H2 (pr.trans p2) (t.trans t2), fun i d q2 G H2 p2 t2 => h.go i d q2 G H2 (pr.trans p2) (t.trans t2)⟩
abbrev MI0 := En → Gp → R Src
def tI (K : PySem.W.Frag) (W : WX) (m : MI0) : TI := fun σ H Q => ∃ p G e, Rel K p G H ∧ Envs K p H σ e ∧ Co K W σ p H (fun q H' J s => ItM K q H' J s ∧ ∃ G', Rel K q G' H' ∧ s.still G' = true) (m e G) Q
/-- as above; what is left of the heap -/
def CoI (K : PySem.W.Frag) (W : WX) (σ : St) (p : List Addr) (H : Hp) (r : R Src) (Q : It → Hp → Prop) : Prop := match r with
  | .ok s G => s.still G = true ∧ ∀ q H' J, p <+: q → Tu H H' → Rel K q G H' → ItM K q H' J s → Q J H'
  | .exc c G => ∀ q H', p <+: q → Tu H H' → Rel K q G H' → W (.ref (He.ga K (xname c))) none σ H'
  | .bad => False
def tIt (K : PySem.W.Frag) (W : WX) (m : MI0) : TI := fun σ H Q => ∃ p G e, Rel K p G H ∧ Envs K p H σ e ∧ CoI K W σ p H (m e G) Q
def SI (X : Cx) (W : WX) (tg iter : Expr) (m : MI0) : Prop := PI X tg iter (tIt X.K W m)
theorem CoI.later {K : PySem.W.Frag} {W : WX} {σ : St} {p q : List Addr} {H H' : Hp} {r : R Src} {Q : It → Hp → Prop} (h : CoI K W σ p H r Q) (pr : p <+: q) (t : Tu H H') : CoI K W σ q H' r Q := by
  cases r with
  | ok d G => exact ⟨h.1, fun q2 H2 v p2 t2 => h.2 q2 H2 v (pr.trans p2) (t.trans t2)⟩
  | exc c G => exact fun q2 H2 p2 t2 => h q2 H2 (pr.trans p2) (t.trans t2)
  | bad => exact h
theorem CoI.bind {α β : Type} {K : PySem.W.Frag} {W : WX} {σ : St} {p : List Addr} {H : Hp} {rel : List Addr → Hp → β → α → Prop} {r : R α} {f : α → Gp → R Src} {Q : It → Hp → Prop} {P : β → Hp → Prop} (h : CoI K W σ p H (r.bind f) Q)
    (k : ∀ d G1 q H1 v, p <+: q → Tu H H1 → Rel K q G1 H1 → rel q H1 v d → CoI K W σ q H1 (f d G1) Q → P v H1) : Co K W σ p H rel r P := by
  cases r with
  | ok d G => exact fun q H1 v pr t rl rv => k d G q H1 v pr t rl rv (CoI.later (r := f d G) h pr t)
  | exc c G => exact h
  | bad => exact h
theorem pi_imp {X : Cx} {tg e : Expr} {t t' : TI} (h : PI X tg e t) (k : ∀ σ H Q, t' σ H Q → t σ H Q) : PI X tg e t' := ⟨fun pins s σ H Q I q => h.run pins s σ H Q I (k σ H Q q)⟩
theorem pi_or {X : Cx} {tg e : Expr} {t t' : TI} (h : PI X tg e t) (h' : PI X tg e t') : PI X tg e (fun σ H Q => t σ H Q ∨ t' σ H Q) := ⟨fun pins s σ H Q I q => q.elim (h.run pins s σ H Q I) (h'.run pins s σ H Q I)⟩
def chars (x : Str) : List D := x.cps.toList.map fun c => D.str ⟨#[c]⟩
/-- what a value is walked as -/
def dSrc (x : D) (G : Gp) : R Src := match x with
  | .tup ds => .ok ⟨ds, none⟩ G
  | .str x => .ok ⟨chars x, none⟩ G
  | .ref n => (match G[n]? with
    | some (.lst ds) => .ok ⟨ds, some n⟩ G
    | _ => .bad)
  | .scr ns => .ok ⟨ns.map D.int, none⟩ G
  | _ => .bad
@[simp] def miVal (a : ME0) : MI0 := fun e G => (a e G).bind fun x G => dSrc x G
def rangeD (i : Int) (n : Nat) : List D := (List.range n).map fun (k : Nat) => D.int (i + (k : Int))
@[simp] def miRange1 (m : MA0) : MI0 := fun e G => (m e G).bind fun ds G => match ds with
  | [.int j] => if -100000 < j ∧ j < 100000 then .ok ⟨rangeD 0 j.toNat, none⟩ G else .bad
  | _ => .bad
@[simp] def miRange2 (m : MA0) : MI0 := fun e G => (m e G).bind fun ds G => match ds with
  | [.int i, .int j] => if -100000 < i ∧ i < 100000 ∧ -100000 < j ∧ j < 100000 then .ok ⟨rangeD i (j - i).toNat, none⟩ G else .bad
  | _ => .bad
section
variable {X : Cx} {W : WX} {a b c tg : Expr} {es : List Expr} {ma mb mc : ME0} {m : MA0} {pos : Pos}
theorem CoI.here {K : PySem.W.Frag} {σ : St} {p : List Addr} {H : Hp} {s : Src} {G : Gp} {J : It} {Q : It → Hp → Prop} (h : CoI K W σ p H (.ok s G) Q) (rl : Rel K p G H) (j : ItM K p H J s) : Q J H := h.2 p H J (List.prefix_refl p) (Tu.refl H) rl j
theorem still_ref {K : PySem.W.Frag} {q : List Addr} {n : Nat} {ds : List D} {G : Gp} (h : (Src.mk ds (some n)).still G = true) : G[n]? = some (.lst ds) := by
  unfold Src.still at h
  dsimp only at h
  split at h
  · rename_i g
    rw [g, beqs_eq h]
  · cases h
theorem sqL_inj {H : Hp} {K : PySem.W.Frag} {a : Addr} {xs ys : List V} (h : H a = some (.lst xs)) : SqL K H a xs := .inl (.inl h)
theorem si_val (ha : SE X W a ma) : SI X W tg a (miVal ma) := by
  refine pi_imp (pi_or (pi_or (pi_tup ha) (pi_list ha)) (pi_str ha)) fun σ H Q ⟨p, G, e, rl, ev, h⟩ => ?_
  have h' : CoI X.K W σ p H ((ma e G).bind fun x G => dSrc x G) Q := h
  cases hm : ma e G with
  | bad => rw [hm] at h'; exact h'.elim
  | exc c G1 => exact .inl (.inl ⟨p, G, e, rl, ev, by rw [hm] at h' ⊢; exact h'⟩)
  | ok x G1 =>
    rw [hm, R.bind_ok] at h'
    have go : ∀ {P : V → Hp → Prop}, (∀ q H1 v, p <+: q → Tu H H1 → Rel X.K q G1 H1 → Den X.K q H1 v x → P v H1) → tE X.K W ma σ H P := fun k => ⟨p, G, e, rl, ev, by rw [hm]; exact k⟩
    have nk : ∀ q H1, p <+: q → Tu H H1 → CoI X.K W σ q H1 (dSrc x G1) Q := fun q H1 pr t => CoI.later h' pr t
    cases x with
    | tup ds =>
      refine .inl (.inl (go fun q H1 v pr t r1 dv => ?_))
      obtain ⟨b, vs, rfl, hb, hxs⟩ := inv_tup dv
      refine ⟨b, rfl, ⟨vs, .inl (.inl hb)⟩, (nk q H1 pr t).here r1 ⟨fun q2 G2 H2 p2 t2 r2 _ => ⟨vs, .inl (.inl (t2 _ _ hb trivial)), by rw [hxs.length]; exact Nat.le_refl _⟩, fun i d q2 G2 H2 p2 t2 r2 _ hd => ?_⟩⟩
      have hb2 : H2 b = some (.tup vs) := t2 _ _ hb trivial
      obtain ⟨w, hw, dw⟩ := (hxs.mono t2 p2).get hd
      refine ⟨⟨vs, w, .inl (.inl hb2), hw⟩, fun y H3 hy => ?_⟩
      obtain ⟨rfl, hy⟩ := hy
      have := hy vs (.inl (.inl hb2))
      rw [hw] at this
      cases this
      exact ⟨Tu.refl _, r2, dw⟩
    | str z =>
      refine .inr (go fun q H1 v pr t r1 dv => ?_)
      cases inv_str dv
      have hl : (chars z).length = z.cps.size := by unfold chars; rw [List.length_map]; exact Array.length_toList
      refine ⟨z, rfl, (nk q H1 pr t).here r1 ⟨fun q2 G2 H2 p2 t2 r2 _ => by show z.cps.size ≤ (chars z).length; rw [hl]; exact Nat.le_refl _, fun i d q2 G2 H2 p2 t2 r2 _ hd => ?_⟩⟩
      have hd' : (chars z)[i]? = some d := hd
      unfold chars at hd'
      rw [List.getElem?_map] at hd'
      cases hc : z.cps.toList[i]? with
      | none => rw [hc] at hd'; cases hd'
      | some k =>
        rw [hc] at hd'
        cases hd'
        have hk : z.cps[i]? = some k := by rw [← Array.getElem?_toList]; exact hc
        refine ⟨by show i < z.cps.size; exact (Array.getElem?_eq_some_iff.mp hk).1, fun y H3 hy => ?_⟩
        obtain ⟨rfl, k', hk', rfl⟩ := hy
        rw [hk] at hk'
        cases hk'
        exact ⟨Tu.refl _, r2, .str _⟩
    | ref n =>
      refine .inl (.inr (go fun q H1 v pr t r1 dv => ?_))
      have nk' := nk q H1 pr t
      cases g : G1[n]? with
      | none =>
        rw [show dSrc (.ref n) G1 = .bad by show (match G1[n]? with | some (.lst ds) => (.ok ⟨ds, some n⟩ G1 : R Src) | _ => .bad) = .bad; rw [g]] at nk'
        exact nk'.elim
      | some o =>
        cases o with
        | dct _ =>
          rw [show dSrc (.ref n) G1 = .bad by show (match G1[n]? with | some (.lst ds) => (.ok ⟨ds, some n⟩ G1 : R Src) | _ => .bad) = .bad; rw [g]] at nk'
          exact nk'.elim
        | ins _ =>
          rw [show dSrc (.ref n) G1 = .bad by show (match G1[n]? with | some (.lst ds) => (.ok ⟨ds, some n⟩ G1 : R Src) | _ => .bad) = .bad; rw [g]] at nk'
          exact nk'.elim
        | lst ds =>
          rw [show dSrc (.ref n) G1 = .ok ⟨ds, some n⟩ G1 by show (match G1[n]? with | some (.lst ds) => (.ok ⟨ds, some n⟩ G1 : R Src) | _ => .bad) = _; rw [g]] at nk'
          obtain ⟨b, rfl, hb⟩ := inv_ref dv
          obtain ⟨vs, hl, hxs⟩ := r1.lst hb g
          refine ⟨b, rfl, ⟨vs, .inl (.inl hl)⟩, nk'.here r1 ⟨fun q2 G2 H2 p2 t2 r2 st => ?_, fun i d q2 G2 H2 p2 t2 r2 st hd => ?_⟩⟩
          · obtain ⟨ws, hl2, hx2⟩ := r2.lst (pre_get p2 hb) (still_ref (K := X.K) (q := q2) st)
            exact ⟨ws, .inl (.inl hl2), by rw [hx2.length]; exact Nat.le_refl _⟩
          · obtain ⟨ws, hl2, hx2⟩ := r2.lst (pre_get p2 hb) (still_ref (K := X.K) (q := q2) st)
            obtain ⟨w, hw, dw⟩ := hx2.get hd
            refine ⟨⟨ws, w, .inl (.inl hl2), hw⟩, fun y H3 hy => ?_⟩
            obtain ⟨rfl, hy⟩ := hy
            have := hy ws (.inl (.inl hl2))
            rw [hw] at this
            cases this
            exact ⟨Tu.refl _, r2, dw⟩
    | non => exact h'.elim
    | bl _ => exact h'.elim
    | int _ => exact h'.elim
    | scr ns =>
      refine .inl (.inr (go fun q H1 v pr t r1 dv => ?_))
      obtain ⟨b, rfl, hb⟩ := inv_scr dv
      refine ⟨b, rfl, ⟨_, hb.sq⟩, (nk q H1 pr t).here r1 ⟨fun q2 G2 H2 p2 t2 r2 _ => ⟨ns.map V.int, (hb.mono t2).sq, by simp⟩, fun i d q2 G2 H2 p2 t2 r2 _ hd => ?_⟩⟩
      have hd' : (ns.map D.int)[i]? = some d := hd
      rw [List.getElem?_map] at hd'
      cases hc : ns[i]? with
      | none => rw [hc] at hd'; cases hd'
      | some k =>
        rw [hc] at hd'
        cases hd'
        have hw : (ns.map V.int)[i]? = some (.int k) := by rw [List.getElem?_map, hc]; rfl
        refine ⟨⟨_, .int k, (hb.mono t2).sq, hw⟩, fun y H3 hy => ?_⟩
        obtain ⟨rfl, hy⟩ := hy
        have := hy _ (hb.mono t2).sq
        rw [hw] at this
        cases this
        exact ⟨Tu.refl _, r2, .int _⟩
    | exn _ _ => exact h'.elim
theorem itr_m {K : PySem.W.Frag} {p : List Addr} {H : Hp} {lo : Int} {n : Nat} : ItM K p H (Itr lo n) ⟨rangeD lo n, none⟩ := by
  refine ⟨fun q G H' pr t r _ => by show n ≤ (rangeD lo n).length; unfold rangeD; rw [List.length_map, List.length_range]; exact Nat.le_refl _, fun i d q G H' pr t r _ hd => ?_⟩
  have hd' : (rangeD lo n)[i]? = some d := hd
  unfold rangeD at hd'
  rw [List.getElem?_map] at hd'
  cases hc : (List.range n)[i]? with
  | none => rw [hc] at hd'; cases hd'
  | some k =>
    rw [hc] at hd'
    cases hd'
    obtain ⟨h1, h2⟩ := List.getElem?_eq_some_iff.mp hc
    rw [List.getElem_range] at h2
    subst h2
    rw [List.length_range] at h1
    refine ⟨h1, fun x H2 hy => ?_⟩
    obtain ⟨rfl, rfl⟩ := hy
    exact ⟨Tu.refl _, r, .int _⟩
theorem si_range1 {p0 : Pos} (hg : Gl X "range") (hm : X.mg "range" = none) (ha : SA X W [a] m) (hs : starEach [a] X.env = [(false, eval a X.env)]) : SI X W tg (.Call (.Name "range" p0) [a] [] pos) (miRange1 m) := by
  refine pi_imp (pi_range1 hg hm ha hs) fun σ H Q ⟨p, G, e, rl, ev, h⟩ => ?_
  refine ⟨p, G, e, rl, ev, CoI.bind (r := m e G) h fun ds G1 q H1 vs pr t r1 dv h1 => ?_⟩
  split at h1
  · split at h1
    · rename_i j hj
      obtain ⟨v, rfl, d1⟩ := inv1 dv
      cases inv_int d1
      exact ⟨j, rfl, by omega, by omega, h1.here r1 itr_m⟩
    · exact h1.elim
  · exact h1.elim
theorem si_range2 {p0 : Pos} (hg : Gl X "range") (hm : X.mg "range" = none) (ha : SA X W [a, b] m) (hs : starEach [a, b] X.env = [(false, eval a X.env), (false, eval b X.env)]) (hs2 : starEach [b] X.env = [(false, eval b X.env)]) : SI X W tg (.Call (.Name "range" p0) [a, b] [] pos) (miRange2 m) := by
  refine pi_imp (pi_range2 hg hm ha hs hs2) fun σ H Q ⟨p, G, e, rl, ev, h⟩ => ?_
  refine ⟨p, G, e, rl, ev, CoI.bind (r := m e G) h fun ds G1 q H1 vs pr t r1 dv h1 => ?_⟩
  split at h1
  · split at h1
    · rename_i i j hj
      obtain ⟨v, w, rfl, d1, d2⟩ := inv2 dv
      cases inv_int d1
      cases inv_int d2
      exact ⟨i, j, rfl, by omega, h1.here r1 itr_m⟩
    · exact h1.elim
  · exact h1.elim
inductive Tg where
  | nm (i : Nat) | tp (is : List Nat)
@[simp] def setAll : List Nat → List D → En → Option En
  | [], [], e => some e
  | i :: is, d :: ds, e => setAll is ds (e.set i (some d))
  | _, _, _ => none
@[simp] def Tg.set : Tg → D → En → Option En
  | .nm i, d, e => some (e.set i (some d))
  | .tp is, .tup ds, e => setAll is ds e
  | .tp _, _, _ => none
theorem wipe_get (σ : St) (i : Nat) : ∀ vs : List Nat, (L2.wipe σ vs)[i]? = if i ∈ vs then (σ[i]?).map (fun _ => none) else σ[i]?
  | [] => by rw [if_neg (by simp)]; rfl
  | v :: vs => by
    show ((L2.wipe σ vs).set v none)[i]? = _
    by_cases h : i = v
    · subst h
      rw [if_pos (by simp)]
      by_cases hl : i < σ.length
      · rw [List.getElem?_set_self (by rw [L2.wipe_length]; exact hl), List.getElem?_eq_getElem hl]
        rfl
      · rw [List.getElem?_eq_none (by rw [List.length_set, L2.wipe_length]; omega), List.getElem?_eq_none (by omega)]
        rfl
    · rw [List.getElem?_set_ne (Ne.symm h), wipe_get σ i vs]
      simp [h]
theorem wipe_set {σ : St} {i : Nat} {x : Option V} {vs : List Nat} (h : i ∈ vs) : L2.wipe (σ.set i x) vs = L2.wipe σ vs := by
  apply List.ext_getElem?
  intro j
  rw [wipe_get, wipe_get]
  by_cases hj : j = i
  · subst hj
    rw [if_pos h, if_pos h]
    by_cases hl : j < σ.length
    · rw [List.getElem?_set_self hl, List.getElem?_eq_getElem hl]
      rfl
    · rw [List.getElem?_eq_none (by rw [List.length_set]; omega), List.getElem?_eq_none (by omega)]
  · rw [List.getElem?_set_ne (Ne.symm hj)]
theorem wipe_wipe (σ : St) (vs : List Nat) : L2.wipe (L2.wipe σ vs) vs = L2.wipe σ vs := by
  apply List.ext_getElem?
  intro j
  rw [wipe_get, wipe_get]
  split
  · rw [Option.map_map]; rfl
  · rfl
def Tg.slots : Tg → List Nat
  | .nm i => [i]
  | .tp is => is
/-- a target stores -/
def GoT (K : PySem.W.Frag) (g : TG) (t : Tg) : Prop := ∀ (p : List Addr) (H : Hp) (σ : St) (e e' : En) (v : V) (d : D) (Q : St → Hp → Prop), Envs K p H σ e → Den K p H v d → t.set d e = some e' →
  (∀ σ', Envs K p H σ' e' → (∀ vs, (∀ i ∈ t.slots, i ∈ vs) → L2.wipe σ' vs = L2.wipe σ vs) → Q σ' H) → g v σ H Q
theorem got_name {K : PySem.W.Frag} {i : Nat} : GoT K (gName i) (.nm i) := fun p H σ e e' v d Q ev dv h k => by
  cases h
  exact k _ (ev.set dv) fun vs hv => wipe_set (hv i (by simp [Tg.slots]))
def gAll : List Nat → TGs
  | [] => gNil
  | i :: is => gCons (gName i) (gAll is)
theorem got_all {K : PySem.W.Frag} : ∀ (is : List Nat) (p : List Addr) (H : Hp) (σ : St) (e e' : En) (vs : List V) (ds : List D) (Q : St → Hp → Prop), Envs K p H σ e → Dens K p H vs ds → setAll is ds e = some e' →
    (∀ σ', Envs K p H σ' e' → (∀ vs, (∀ i ∈ is, i ∈ vs) → L2.wipe σ' vs = L2.wipe σ vs) → Q σ' H) → gAll is vs σ H Q
  | [], p, H, σ, e, e', vs, ds, Q, ev, dv, h, k => by
    cases dv with
    | nil => cases h; exact ⟨rfl, k σ ev fun _ _ => rfl⟩
    | cons _ _ => cases h
  | i :: is, p, H, σ, e, e', vs, ds, Q, ev, dv, h, k => by
    cases dv with
    | nil => cases h
    | cons d1 d2 => exact ⟨_, _, rfl, got_all is p H _ _ e' _ _ Q (ev.set d1) d2 h fun σ' ev' hw => k σ' ev' fun vs hv => (hw vs fun j hj => hv j (List.mem_cons_of_mem _ hj)).trans (wipe_set (hv i (by simp)))⟩
theorem setAll_len : ∀ {is : List Nat} {ds : List D} {e e' : En}, setAll is ds e = some e' → is.length = ds.length
  | [], [], _, _, _ => rfl
  | [], _ :: _, _, _, h => by cases h
  | _ :: _, [], _, _, h => by cases h
  | i :: is, d :: ds, e, e', h => by rw [List.length_cons, List.length_cons, setAll_len (is := is) (ds := ds) h]
theorem got_tup {K : PySem.W.Frag} {is : List Nat} {n : Nat} (hn : n = is.length) : GoT K (gTup K n (gAll is)) (.tp is) := fun p H σ e e' v d Q ev dv h k => by
  cases d with
  | tup ds =>
    obtain ⟨a, vs, rfl, ha, hxs⟩ := inv_tup dv
    exact ⟨a, vs, rfl, .inl (.inl ha), by rw [hxs.length, hn]; exact (setAll_len h).symm, got_all is p H σ e e' vs ds Q ev hxs h k⟩
  | _ => cases h
abbrev MS0 := En → Gp → SR
def forGo (t : Tg) (b : MS0) (s : Src) : List D → MS0
  | [] => fun e G => .nx e G
  | d :: ds => fun e G => match t.set d e with
    | none => .bad
    | some e1 => (match b e1 G with
      | .nx e2 G2 => if s.still G2 = true then forGo t b s ds e2 G2 else .bad
      | .ct e2 G2 => if s.still G2 = true then forGo t b s ds e2 G2 else .bad
      | .bk e2 G2 => .nx e2 G2
      | .rt d G2 => .rt d G2
      | .exc c e2 G2 => .exc c e2 G2
      | .bad => .bad)
def mFor (t : Tg) (it : MI0) (b : MS0) : MS0 := fun e G => match it e G with
  | .ok s G1 => if s.still G1 = true then forGo t b s s.ds e G1 else .bad
  | .exc c G1 => .exc c e G1
  | .bad => .bad
/-- what is wanted of a statement's result -/
def CoS (K : PySem.W.Frag) (W : WX) (p : List Addr) (H : Hp) (r : SR) (D : Ends) : Prop := match r with
  | .nx e' G' => ∀ q σ' H', p <+: q → Tu H H' → Rel K q G' H' → Envs K q H' σ' e' → D.nx σ' H'
  | .rt d G' => ∀ q H' v, p <+: q → Tu H H' → Rel K q G' H' → Den K q H' v d → D.rt v H'
  | .bk e' G' => ∀ q σ' H', p <+: q → Tu H H' → Rel K q G' H' → Envs K q H' σ' e' → D.bk σ' H'
  | .ct e' G' => ∀ q σ' H', p <+: q → Tu H H' → Rel K q G' H' → Envs K q H' σ' e' → D.ct σ' H'
  | .exc c e' G' => ∀ q σ' H', p <+: q → Tu H H' → Rel K q G' H' → Envs K q H' σ' e' → W (.ref (He.ga K (xname c))) none σ' H'
  | .bad => False
theorem CoS.later {K : PySem.W.Frag} {p q : List Addr} {H H' : Hp} {r : SR} {D : Ends} (h : CoS K W p H r D) (pr : p <+: q) (t : Tu H H') : CoS K W q H' r D := by
  cases r with
  | nx e G => exact fun q2 s2 H2 p2 t2 => h q2 s2 H2 (pr.trans p2) (t.trans t2)
  | rt e G => exact fun q2 H2 s2 p2 t2 => h q2 H2 s2 (pr.trans p2) (t.trans t2)
  | bk e G => exact fun q2 s2 H2 p2 t2 => h q2 s2 H2 (pr.trans p2) (t.trans t2)
  | ct e G => exact fun q2 s2 H2 p2 t2 => h q2 s2 H2 (pr.trans p2) (t.trans t2)
  | exc c e G => exact fun q2 s2 H2 p2 t2 => h q2 s2 H2 (pr.trans p2) (t.trans t2)
  | bad => exact h
theorem tS_iff {K : PySem.W.Frag} {m : MS0} {D : Ends} {σ : St} {H : Hp} : tS K W m D σ H ↔ ∃ p G e, Rel K p G H ∧ Envs K p H σ e ∧ CoS K W p H (m e G) D := Iff.rfl
theorem ss_for {body : List Stmt} {t : Tg} {g : TG} {it : MI0} {mb : MS0} (hp : PassesOwn (model X.prog X.w) X.A X.env X.xe) (hc : X.calm = true) (hi : SI X W tg a it) (hg : PG X tg g) (ht : GoT X.K g t) (hb : SB X W body mb)
    (hs : ∀ x, foldedSetIterable a X.env x = pure x) : SS X W (.For tg a body [] pos) (mFor t it mb) := by
  refine ps_imp (ps_for hp hc hi hg hb hs) fun D σ H ⟨p, G, e, rl, ev, h⟩ => ?_
  have h' : CoS X.K W p H (mFor t it mb e G) D := h
  refine ⟨p, G, e, rl, ev, ?_⟩
  unfold mFor at h'
  cases hm : it e G with
  | bad => rw [hm] at h'; exact h'
  | exc c G1 =>
    rw [hm] at h'
    exact fun q H1 pr t1 r1 => h' q σ H1 pr t1 r1 (ev.mono t1 pr)
  | ok s G1 =>
    rw [hm] at h'
    dsimp only at h'
    split at h'
    · rename_i hst
      refine ⟨hst, fun q1 H1 J pr1 t1 r1 jm => ?_⟩
      refine ⟨fun i m' σ' H' => m' = s.ds.length - i ∧ i ≤ s.ds.length ∧ ∃ q G2 e2, q1 <+: q ∧ Tu H1 H' ∧ Rel X.K q G2 H' ∧ Envs X.K q H' σ' e2 ∧ s.still G2 = true ∧ CoS X.K W q H' (forGo t mb s (s.ds.drop i) e2 G2) D,
        ⟨s.ds.length, by omega, Nat.zero_le _, q1, G1, e, List.prefix_refl _, Tu.refl _, r1, ev.mono t1 pr1, hst, h'.later pr1 t1⟩, ?_⟩
      rintro i m' σ' H' ⟨rfl, hi', q, G2, e2, pr2, t2, r2, ev2, st2, c2⟩
      by_cases hlt : i < s.ds.length
      · have hd : s.ds[i]? = some s.ds[i] := List.getElem?_eq_getElem hlt
        have hdr : s.ds.drop i = s.ds[i] :: s.ds.drop (i + 1) := List.drop_eq_getElem_cons hlt
        rw [hdr] at c2
        unfold forGo at c2
        cases hset : t.set s.ds[i] e2 with
        | none => rw [hset] at c2; exact c2.elim
        | some e1 =>
          rw [hset] at c2
          obtain ⟨jg, jy⟩ := jm.go i _ q G2 H' pr2 t2 r2 st2 hd
          refine .inr ⟨jg, fun σ3 H3 => ∃ q3 G3 e3, q1 <+: q3 ∧ Tu H1 H3 ∧ Rel X.K q3 G3 H3 ∧ Envs X.K q3 H3 σ3 e3 ∧ s.still G3 = true ∧ CoS X.K W q3 H3 (forGo t mb s (s.ds.drop (i + 1)) e3 G3) D, fun σ3 H3 h3 => ⟨s.ds.length - (i + 1), by omega, rfl, hlt, h3⟩, fun x H3 hy => ?_⟩
          obtain ⟨t3, r3, dx⟩ := jy x H3 hy
          refine ht q H3 σ' e2 e1 x _ _ (ev2.mono t3 (List.prefix_refl _)) dx hset fun σ4 ev4 _ => ?_
          refine ⟨q, G2, e1, r3, ev4, ?_⟩
          dsimp only at c2
          have c3 := CoS.later (W := W) c2 (List.prefix_refl q) t3
          show CoS X.K W q H3 (mb e1 G2) _
          cases hb2 : mb e1 G2 with
          | nx e5 G5 =>
            rw [hb2] at c3
            dsimp only at c3
            split at c3
            · rename_i st5
              exact fun q5 σ5 H5 p5 t5 r5 ev5 => ⟨q5, G5, e5, pr2.trans p5, (t2.trans t3).trans t5, r5, ev5, st5, c3.later p5 t5⟩
            · exact c3.elim
          | ct e5 G5 =>
            rw [hb2] at c3
            dsimp only at c3
            split at c3
            · rename_i st5
              exact fun q5 σ5 H5 p5 t5 r5 ev5 => ⟨q5, G5, e5, pr2.trans p5, (t2.trans t3).trans t5, r5, ev5, st5, c3.later p5 t5⟩
            · exact c3.elim
          | bk e5 G5 => rw [hb2] at c3; exact c3
          | rt d5 G5 => rw [hb2] at c3; exact c3
          | exc k5 e5 G5 => rw [hb2] at c3; exact c3
          | bad => rw [hb2] at c3; exact c3.elim
      · have e0 : i = s.ds.length := by omega
        subst e0
        rw [List.drop_length] at c2
        exact .inl ⟨jm.stop q G2 H' pr2 t2 r2 st2, c2 q σ' H' (List.prefix_refl _) (Tu.refl _) r2 ev2⟩
    · exact h'.elim
def whileGo (c : En → Gp → R Bool) (b : MS0) : Nat → MS0
  | 0 => fun _ _ => .bad
  | n + 1 => fun e G => match c e G with
    | .bad => .bad
    | .exc k G1 => .exc k e G1
    | .ok false G1 => .nx e G1
    | .ok true G1 => (match b e G1 with
      | .nx e2 G2 => whileGo c b n e2 G2
      | .ct e2 G2 => whileGo c b n e2 G2
      | .bk e2 G2 => .nx e2 G2
      | .rt d G2 => .rt d G2
      | .exc c e2 G2 => .exc c e2 G2
      | .bad => .bad)
theorem ss_while {body : List Stmt} {mc : En → Gp → R Bool} {mb : MS0} (n : Nat) (hp : PassesOwn (model X.prog X.w) X.A X.env X.xe) (hc : ST X W c mc) (hb : SB X W body mb) : SS X W (.While c body [] pos) (whileGo mc mb n) := by
  refine ps_imp (ps_while hp hc hb) fun D σ H ⟨p, G, e, rl, ev, h⟩ => ?_
  have h' : CoS X.K W p H (whileGo mc mb n e G) D := h
  refine ⟨fun m σ' H' => ∃ q G2 e2, p <+: q ∧ Tu H H' ∧ Rel X.K q G2 H' ∧ Envs X.K q H' σ' e2 ∧ CoS X.K W q H' (whileGo mc mb m e2 G2) D, ⟨n, p, G, e, List.prefix_refl _, Tu.refl _, rl, ev, h'⟩, ?_⟩
  rintro m σ' H' ⟨q, G2, e2, pr2, t2, r2, ev2, c2⟩
  cases m with
  | zero => exact c2.elim
  | succ m =>
    unfold whileGo at c2
    refine ⟨q, G2, e2, r2, ev2, ?_⟩
    cases hm : mc e2 G2 with
    | bad => rw [hm] at c2; exact c2
    | exc k G1 =>
      rw [hm] at c2
      exact fun q1 H1 pr t1 r1 => c2 q1 σ' H1 pr t1 r1 (ev2.mono t1 pr)
    | ok k G1 =>
      rw [hm] at c2
      intro q1 H1 k' p1 t1 r1 hk
      subst hk
      cases k' with
      | false => exact c2 q1 σ' H1 p1 t1 r1 (ev2.mono t1 p1)
      | true =>
        refine ⟨fun σ3 H3 => ∃ q3 G3 e3, p <+: q3 ∧ Tu H H3 ∧ Rel X.K q3 G3 H3 ∧ Envs X.K q3 H3 σ3 e3 ∧ CoS X.K W q3 H3 (whileGo mc mb m e3 G3) D, fun σ3 H3 h3 => ⟨m, Nat.lt_succ_self m, h3⟩, ?_⟩
        refine ⟨q1, G1, e2, r1, ev2.mono t1 p1, ?_⟩
        dsimp only at c2
        have c3 := CoS.later (W := W) c2 p1 t1
        show CoS X.K W q1 H1 (mb e2 G1) _
        cases hb2 : mb e2 G1 with
        | nx e5 G5 =>
          rw [hb2] at c3
          exact fun q5 σ5 H5 p5 t5 r5 ev5 => ⟨q5, G5, e5, (pr2.trans p1).trans p5, (t2.trans t1).trans t5, r5, ev5, CoS.later (W := W) c3 p5 t5⟩
        | ct e5 G5 =>
          rw [hb2] at c3
          exact fun q5 σ5 H5 p5 t5 r5 ev5 => ⟨q5, G5, e5, (pr2.trans p1).trans p5, (t2.trans t1).trans t5, r5, ev5, CoS.later (W := W) c3 p5 t5⟩
        | bk e5 G5 => rw [hb2] at c3; exact c3
        | rt d5 G5 => rw [hb2] at c3; exact c3
        | exc k5 e5 G5 => rw [hb2] at c3; exact c3
        | bad => rw [hb2] at c3; exact c3.elim
def wipeE (e : En) : List Nat → En
  | [] => e
  | v :: vs => (wipeE e vs).set v none
theorem Envs.wipe {K : PySem.W.Frag} {p : List Addr} {H : Hp} {σ : St} {e : En} (h : Envs K p H σ e) : ∀ vs : List Nat, Envs K p H (L2.wipe σ vs) (wipeE e vs)
  | [] => h
  | v :: vs => (Envs.wipe h vs).forget
def lcGo (t : Tg) (tst : En → Gp → R Bool) (elt : ME0) (s : Src) (n : Nat) (e : En) : List D → Gp → R D
  | [], G => .ok (.ref n) G
  | d :: ds, G => match t.set d e with
    | none => .bad
    | some e1 => (match tst e1 G with
      | .ok true G1 => (match elt e1 G1 with
        | .ok y G2 => (match G2[n]? with
          | some (.lst acc) => if acc.length < big ∧ s.still (G2.set n (.lst (acc ++ [y]))) = true then lcGo t tst elt s n e ds (G2.set n (.lst (acc ++ [y]))) else .bad
          | _ => .bad)
        | _ => .bad)
      | .ok false G1 => if s.still G1 = true then lcGo t tst elt s n e ds G1 else .bad
      | _ => .bad)
def mLc (t : Tg) (it : MI0) (tst : En → Gp → R Bool) (elt : ME0) (vs : List Nat) : ME0 := fun e G => match it e G with
  | .ok s G1 => if s.still G1 = true ∧ s.still (G1 ++ [.lst []]) = true then lcGo t tst elt s G1.length (wipeE e vs) s.ds (G1 ++ [.lst []]) else .bad
  | .exc c G1 => .exc c G1
  | .bad => .bad
abbrev W0 : WX := fun _ _ _ _ => False
/-- the reading of a comprehension -/
theorem read_lc {t : Tg} {g : TG} {it : MI0} {tst : En → Gp → R Bool} {elt : ME0} {vs : List Nat} {K : PySem.W.Frag} (ht : GoT K g t) (hsl : ∀ i ∈ t.slots, i ∈ vs) {σ : St} {H : Hp} {Q : VK} (h : tE K W (mLc t it tst elt vs) σ H Q) :
    tLc (tIt K W it) g (tT K W0 tst) (tE K W0 elt) vs σ H Q := by
  obtain ⟨p, G, e, rl, ev, h⟩ := h
  refine ⟨p, G, e, rl, ev, ?_⟩
  unfold mLc at h
  cases hm : it e G with
  | bad => rw [hm] at h; exact h
  | exc c G1 => rw [hm] at h; exact h
  | ok s G1 =>
    rw [hm] at h
    dsimp only at h
    split at h
    · rename_i hst
      refine ⟨hst.1, fun q1 H1 J pr1 t1 r1 jm D0 hD0 => ?_⟩
      have rn : Rel K (q1 ++ [D0]) (G1 ++ [.lst []]) (upd H1 D0 (.lst [])) := r1.new hD0 ⟨[], upd_same, .nil⟩
      have hn : (q1 ++ [D0])[G1.length]? = some D0 := by rw [← r1.len, List.getElem?_append_right (Nat.le_refl _), Nat.sub_self]; rfl
      have ew := (ev.mono t1 pr1).wipe vs
      refine ⟨fun i m' H' => m' = s.ds.length - i ∧ i ≤ s.ds.length ∧ ∃ q G2, q1 ++ [D0] <+: q ∧ Tu H1 H' ∧ Rel K q G2 H' ∧ s.still G2 = true ∧ Co K W σ q H' (Den K) (lcGo t tst elt s G1.length (wipeE e vs) (s.ds.drop i) G2) Q,
        ⟨s.ds.length, by omega, Nat.zero_le _, q1 ++ [D0], G1 ++ [.lst []], List.prefix_refl _, Tu.new hD0, rn, hst.2, h.later (pr1.trans (pre_app q1 D0)) (t1.trans (Tu.new hD0))⟩, ?_⟩
      rintro i m' H' ⟨rfl, hi', q, G2, pr2, t2, r2, st2, c2⟩
      have pq : q1 <+: q := (pre_app q1 D0).trans pr2
      by_cases hlt : i < s.ds.length
      · have hd : s.ds[i]? = some s.ds[i] := List.getElem?_eq_getElem hlt
        have hdr : s.ds.drop i = s.ds[i] :: s.ds.drop (i + 1) := List.drop_eq_getElem_cons hlt
        rw [hdr] at c2
        unfold lcGo at c2
        cases hset : t.set s.ds[i] (wipeE e vs) with
        | none => rw [hset] at c2; exact c2.elim
        | some e1 =>
          rw [hset] at c2
          dsimp only at c2
          obtain ⟨jg, jy⟩ := jm.go i _ q G2 H' pq t2 r2 st2 hd
          refine .inr ⟨jg, fun H3 => ∃ q3 G3, q1 ++ [D0] <+: q3 ∧ Tu H1 H3 ∧ Rel K q3 G3 H3 ∧ s.still G3 = true ∧ Co K W σ q3 H3 (Den K) (lcGo t tst elt s G1.length (wipeE e vs) (s.ds.drop (i + 1)) G3) Q, fun H3 h3 => ⟨s.ds.length - (i + 1), by omega, rfl, hlt, h3⟩, fun x H3 hy => ?_⟩
          obtain ⟨t3, r3, dx⟩ := jy x H3 hy
          refine ht q H3 _ (wipeE e vs) e1 x _ _ ((ew.mono t2 pq).mono t3 (List.prefix_refl _)) dx hset fun σ4 ev4 hw => ⟨(hw vs hsl).trans (wipe_wipe σ vs), ?_⟩
          refine ⟨q, G2, e1, r3, ev4, ?_⟩
          have c3 := Co.later c2 (List.prefix_refl q) t3
          cases hb2 : tst e1 G2 with
          | bad => rw [hb2] at c3; exact c3.elim
          | exc k5 G5 => rw [hb2] at c3; exact c3.elim
          | ok b5 G5 =>
            rw [hb2] at c3
            intro q5 H5 b' p5 t5 r5 hb'
            subst hb'
            cases b' with
            | false =>
              dsimp only at c3
              split at c3
              · rename_i st5
                exact ⟨q5, G5, pr2.trans p5, (t2.trans t3).trans t5, r5, st5, c3.later p5 t5⟩
              · exact c3.elim
            | true =>
              dsimp only at c3
              refine ⟨q5, G5, e1, r5, ev4.mono t5 p5, ?_⟩
              cases he2 : elt e1 G5 with
              | bad => rw [he2] at c3; exact c3.elim
              | exc k6 G6 => rw [he2] at c3; exact c3.elim
              | ok y G6 =>
                rw [he2] at c3
                dsimp only at c3
                intro q6 H6 v6 p6 t6 r6 dv6
                have hn6 : q6[G1.length]? = some D0 := pre_get ((pr2.trans p5).trans p6) hn
                cases g6 : G6[G1.length]? with
                | none => rw [g6] at c3; exact c3.elim
                | some o6 =>
                  rw [g6] at c3
                  cases o6 with
                  | dct _ => exact c3.elim
                  | ins _ => exact c3.elim
                  | lst acc =>
                    dsimp only at c3
                    split at c3
                    · rename_i st6
                      obtain ⟨ws, hl6, hx6⟩ := r6.lst hn6 g6
                      have tu6 : Tu H6 (upd H6 D0 (.lst (ws ++ [v6]))) := Tu.set hl6 id
                      refine ⟨ws, hl6, big_lt (by rw [hx6.length]; exact st6.1), q6, _, (pr2.trans p5).trans p6, ((((t2.trans t3).trans t5).trans t6).trans tu6), r6.set (o := .lst (acc ++ [y])) hn6 hl6 id ⟨_, upd_same, (hx6.append (.cons dv6 .nil)).mono tu6 (List.prefix_refl _)⟩, st6.2, Co.later c3 (p5.trans p6) ((t5.trans t6).trans tu6)⟩
                    · exact c3.elim
      · have e0 : i = s.ds.length := by omega
        subst e0
        rw [List.drop_length] at c2
        have c3 : Co K W σ q H' (Den K) (.ok (.ref G1.length) G2) Q := c2
        exact .inl ⟨jm.stop q G2 H' pq t2 r2 st2, c3.here r2 (.ref (pre_get pr2 hn))⟩
    · exact h.elim
def PTsM (X : Cx) (ifs : List Expr) (m : En → Gp → R Bool) : Prop := PTs X ifs (tT X.K W0 m)
def mYes : En → Gp → R Bool := fun _ G => .ok true G
theorem pts_imp {ifs : List Expr} {t t' : TT} (h : PTs X ifs t) (k : ∀ σ H Q, t' σ H Q → t σ H Q) : PTs X ifs t' := ⟨fun pins s σ H Q I q => h.run pins s σ H Q I (k σ H Q q)⟩
theorem ptm_nil : PTsM X [] mYes := pts_imp pts_nil fun σ H Q ⟨p, G, e, rl, ev, h⟩ => Co.here (d := true) (G := G) h rl rfl
theorem ptm_one {m : En → Gp → R Bool} (h : ST X W0 c m) : PTsM X [c] m := pts_one h
theorem se_lc {elt iter : Expr} {ifs : List Expr} {scope : Scope} {own : List (Str × Nat)} {t : Tg} {g : TG} {it : MI0} {tst : En → Gp → R Bool} {me : ME0} (hc : X.calm = true) (hN : X.N.Nodup) (hi : SI X W tg iter it) (ok : BlkOk X.N X.env.scope scope own)
    (hg : ∀ (s : Shared) (H : Hp) (C : Addr) (cl : List (Str × Addr)) (fp : List Addr), PG (X.blk s H scope (compEnvC scope cl C X.env) fp) tg g) (hgt : GoT X.K g t) (hsl : ∀ i ∈ t.slots, i ∈ own.map (·.2))
    (ht : ∀ (s : Shared) (H : Hp) (C : Addr) (cl : List (Str × Addr)) (fp : List Addr), PTsM (X.blk s H scope (compEnvC scope cl C X.env) fp) ifs tst)
    (he : ∀ (s : Shared) (H : Hp) (C : Addr) (cl : List (Str × Addr)) (fp : List Addr), SE (X.blk s H scope (compEnvC scope cl C X.env) fp) W0 elt me) (hs : ∀ x, foldedSetIterable iter X.env x = pure x) :
    SE X W (.ListComp elt [⟨tg, iter, ifs, 0⟩] scope pos) (mLc t it tst me (own.map (·.2))) :=
  pe_imp (pe_lc (tt := tT X.K W0 tst) (te := tE X.K W0 me) hc hN hi ok hg ht he hs) fun _ _ _ h => read_lc hgt hsl h
/-- x = [..] on one line -/
@[simp] def mAsg (t : Tg) (a : ME0) : MS0 := fun e G => match a e G with
  | .ok d G1 => (match t.set d e with
    | some e1 => .nx e1 G1
    | none => .bad)
  | .exc c G1 => .exc c e G1
  | .bad => .bad
theorem read_asg {K : PySem.W.Frag} {t : Tg} {g : TG} {te : TE} {D : Ends} {σ : St} {H : Hp} {m : ME0} (hgt : GoT K g t) (k : ∀ Q, tE K W m σ H Q → te σ H Q) (h : tS K W (mAsg t m) D σ H) : tAsg te g D σ H := by
  obtain ⟨p, G, e, rl, ev, h⟩ := h
  refine k _ ⟨p, G, e, rl, ev, ?_⟩
  have h' : CoS K W p H (mAsg t m e G) D := h
  unfold mAsg at h'
  cases hm : m e G with
  | bad => rw [hm] at h'; exact h'
  | exc c G1 => rw [hm] at h'; exact fun q H1 pr t1 r1 => h' q σ H1 pr t1 r1 (ev.mono t1 pr)
  | ok d G1 =>
    rw [hm] at h'
    dsimp only at h'
    intro q H1 v pr t1 r1 dv
    cases hs : t.set d e with
    | none => rw [hs] at h'; exact h'.elim
    | some e1 =>
      rw [hs] at h'
      exact hgt q H1 σ e e1 v d _ (ev.mono t1 pr) dv hs fun σ' ev' _ => h' q σ' H1 pr t1 r1 ev'
theorem ss_setLc {i : Nat} {y : Str} {py spos : Pos} {elt iter : Expr} {ifs : List Expr} {scope : Scope} {own : List (Str × Nat)} {t : Tg} {g : TG} {it : MI0} {tst : En → Gp → R Bool} {me : ME0} (hc : X.calm = true) (hN : X.N.Nodup) (hy : X.N[i]? = some y) (hyl : X.env.scope.names.lookup y = some .local)
    (hsw : swapsWith (.ListComp elt [⟨tg, iter, ifs, 0⟩] scope pos) (some (.Name y py)) spos.line X.env = pure true) (hi : SI X W tg iter it) (ok : BlkOk X.N X.env.scope scope own)
    (hg : ∀ (s : Shared) (H : Hp) (C : Addr) (cl : List (Str × Addr)) (fp : List Addr), PG (X.blk s H scope (compEnvC scope cl C X.env) fp) tg g) (hgt : GoT X.K g t) (hsl : ∀ i ∈ t.slots, i ∈ own.map (·.2))
    (ht : ∀ (s : Shared) (H : Hp) (C : Addr) (cl : List (Str × Addr)) (fp : List Addr), PTsM (X.blk s H scope (compEnvC scope cl C X.env) fp) ifs tst)
    (he : ∀ (s : Shared) (H : Hp) (C : Addr) (cl : List (Str × Addr)) (fp : List Addr), SE (X.blk s H scope (compEnvC scope cl C X.env) fp) W0 elt me) (hs : ∀ x, foldedSetIterable iter X.env x = pure x) :
    SS X W (.Assign [.Name y py] (.ListComp elt [⟨tg, iter, ifs, 0⟩] scope pos) spos) (mAsg (.nm i) (mLc t it tst me (own.map (·.2)))) :=
  ps_imp (ps_setLc (tt := tT X.K W0 tst) (te := tE X.K W0 me) hc hN hy hyl hsw hi ok hg ht he hs) fun D σ H h => read_asg got_name (fun Q q => read_lc hgt hsl q) h
end
end Mw
namespace Mw
open PySem L2
open PyProof.Rows hiding St
section
variable {X : Cx} {W : WX} {a b c o tg : Expr} {es : List Expr} {ma mb mc mo : ME0} {m : MA0} {pos : Pos}
theorem ss_asg {t : Tg} {g : TG} (ha : SE X W a ma) (hg : PG X tg g) (hgt : GoT X.K g t) (hs : swapsWithSole [tg] a pos.line X.env = pure false) (hw : swappedStores [tg] a X.env = pure none) (h1 : (assignEach [tg] X.env).map (·.2) = [assign tg X.env]) :
    SS X W (.Assign [tg] a pos) (mAsg t ma) := ps_imp (ps_asg ha hg hs hw h1) fun D σ H h => read_asg hgt (fun Q q => q) h
@[simp] def mDrop (a : ME0) : MS0 := fun e G => match a e G with
  | .ok _ G1 => .nx e G1
  | .exc c G1 => .exc c e G1
  | .bad => .bad
@[simp] def mRet (a : ME0) : MS0 := fun e G => match a e G with
  | .ok d G1 => .rt d G1
  | .exc c G1 => .exc c e G1
  | .bad => .bad
@[simp] def mRetN : MS0 := fun _ G => .rt .non G
@[simp] def mNext : MS0 := fun e G => .nx e G
@[simp] def mCont : MS0 := fun e G => .ct e G
@[simp] def mSeq (s t : MS0) : MS0 := fun e G => match s e G with
  | .nx e1 G1 => t e1 G1
  | r => r
@[simp] def mIfS (t : En → Gp → R Bool) (s u : MS0) : MS0 := fun e G => match t e G with
  | .ok true G1 => s e G1
  | .ok false G1 => u e G1
  | .exc c G1 => .exc c e G1
  | .bad => .bad
theorem ss_expr (ha : SE X W a ma) (hs : swapsWith a none pos.line X.env = pure false) : SS X W (.Expr a pos) (mDrop ma) := by
  refine ps_imp (ps_expr ha hs) fun D σ H ⟨p, G, e, rl, ev, h⟩ => ⟨p, G, e, rl, ev, ?_⟩
  have h' : CoS X.K W p H (mDrop ma e G) D := h
  unfold mDrop at h'
  cases hm : ma e G with
  | bad => rw [hm] at h'; exact h'
  | exc c G1 => rw [hm] at h'; exact fun q H1 pr t1 r1 => h' q σ H1 pr t1 r1 (ev.mono t1 pr)
  | ok d G1 => rw [hm] at h'; exact fun q H1 v pr t1 r1 _ => h' q σ H1 pr t1 r1 (ev.mono t1 pr)
theorem ss_ret (ha : SE X W a ma) : SS X W (.Return (some a) pos) (mRet ma) := by
  refine ps_imp (ps_ret ha) fun D σ H ⟨p, G, e, rl, ev, h⟩ => ⟨p, G, e, rl, ev, ?_⟩
  have h' : CoS X.K W p H (mRet ma e G) D := h
  unfold mRet at h'
  cases hm : ma e G with
  | bad => rw [hm] at h'; exact h'
  | exc c G1 => rw [hm] at h'; exact fun q H1 pr t1 r1 => h' q σ H1 pr t1 r1 (ev.mono t1 pr)
  | ok d G1 => rw [hm] at h'; exact fun q H1 v pr t1 r1 dv => h' q H1 v pr t1 r1 dv
theorem ss_retN : SS X W (.Return none pos) mRetN := ps_imp ps_retN fun D σ H ⟨p, G, e, rl, ev, h⟩ => h p H .non (List.prefix_refl _) (Tu.refl _) rl .non
theorem ss_pass : SS X W (.Pass pos) mNext := ps_imp ps_pass fun D σ H ⟨p, G, e, rl, ev, h⟩ => h p σ H (List.prefix_refl _) (Tu.refl _) rl ev
theorem ss_cont : SS X W (.Continue pos) mCont := ps_imp ps_continue fun D σ H ⟨p, G, e, rl, ev, h⟩ => h p σ H (List.prefix_refl _) (Tu.refl _) rl ev
theorem sb_nil : SB X W [] mNext := pss_imp pss_nil fun D σ H ⟨p, G, e, rl, ev, h⟩ => h p σ H (List.prefix_refl _) (Tu.refl _) rl ev
theorem sb_cons {st : Stmt} {rest : List Stmt} {ms mt : MS0} (h1 : SS X W st ms) (h2 : SB X W rest mt) : SB X W (st :: rest) (mSeq ms mt) := by
  refine pss_imp (pss_cons h1 h2) fun D σ H ⟨p, G, e, rl, ev, h⟩ => ⟨p, G, e, rl, ev, ?_⟩
  have h' : CoS X.K W p H (mSeq ms mt e G) D := h
  show CoS X.K W p H (ms e G) _
  unfold mSeq at h'
  cases hm : ms e G with
  | nx e1 G1 =>
    rw [hm] at h'
    exact fun q σ1 H1 pr t1 r1 ev1 => ⟨q, G1, e1, r1, ev1, CoS.later h' pr t1⟩
  | rt d G1 => rw [hm] at h'; exact h'
  | bk d G1 => rw [hm] at h'; exact h'
  | ct d G1 => rw [hm] at h'; exact h'
  | exc c d G1 => rw [hm] at h'; exact h'
  | bad => rw [hm] at h'; exact h'
theorem ss_if {tt : En → Gp → R Bool} {s u : List Stmt} {ms mu : MS0} (hc : ST X W c tt) (h1 : SB X W s ms) (h2 : SB X W u mu) : SS X W (.If c s u pos) (mIfS tt ms mu) := by
  refine ps_imp (ps_if hc h1 h2) fun D σ H ⟨p, G, e, rl, ev, h⟩ => ⟨p, G, e, rl, ev, ?_⟩
  have h' : CoS X.K W p H (mIfS tt ms mu e G) D := h
  unfold mIfS at h'
  cases hm : tt e G with
  | bad => rw [hm] at h'; exact h'
  | exc c G1 => rw [hm] at h'; exact fun q H1 pr t1 r1 => h' q σ H1 pr t1 r1 (ev.mono t1 pr)
  | ok k G1 =>
    rw [hm] at h'
    intro q H1 k' pr t1 r1 hk
    subst hk
    cases k' with
    | true => exact ⟨q, G1, e, r1, ev.mono t1 pr, CoS.later h' pr t1⟩
    | false => exact ⟨q, G1, e, r1, ev.mono t1 pr, CoS.later h' pr t1⟩
def dSet (o i v : D) (G : Gp) : Option Gp := match o with
  | .ref n => (match G[n]? with
    | some (.lst ds) => (match i with
      | .int k => (match ixN ds.length k with
        | some j => some (G.set n (.lst (ds.set j v)))
        | none => none)
      | _ => none)
    | some (.dct kvs) => (match keyD i with
      | some k => if kvs.length < big then some (G.set n (.dct (putD kvs k v))) else none
      | none => none)
    | _ => none)
  | _ => none
def mSetI (o i v : ME0) : MS0 := fun e G => match (v e G).bind fun z G => (o e G).bind fun x G => (i e G).bind fun y G => .ok (x, y, z) G with
  | .ok (x, y, z) G1 => (match dSet x y z G1 with
    | some G2 => .nx e G2
    | none => .bad)
  | .exc c G1 => .exc c e G1
  | .bad => .bad
def rSetD : V → V → V → Hp → (Hp → Prop) → Prop := fun o i v H Q => ∃ a H4, o = .ref a ∧ DPut H a i v H4 ∧ Q H4
theorem set_dct (hu : X.A.units + 1 < cLine) : PSet X rSetD := by
  intro pins s σ H o i v ov iv u Q I ro ri rv h
  obtain ⟨a, H4, rfl, g, q⟩ := h
  obtain rfl : ov = Value.ref a := ro
  exact d_setItem hu I g ri rv fun s4 I4 => ⟨H4, I4, q⟩
theorem PSet.or {t t' : TSet} (h : PSet X t) (h' : PSet X t') : PSet X (fun o i v H Q => t o i v H Q ∨ t' o i v H Q) := by
  intro pins s σ H o i v ov iv u Q I ro ri rv q
  rcases q with q | q
  · exact h pins s σ H o i v ov iv u Q I ro ri rv q
  · exact h' pins s σ H o i v ov iv u Q I ro ri rv q
theorem set_ok {K : PySem.W.Frag} {p : List Addr} {G G2 : Gp} {H : Hp} {o i v : V} {x y z : D} {Q : Hp → Prop} (r : Rel K p G H) (dx : Den K p H o x) (dy : Den K p H i y) (dz : Den K p H v z) (e : dSet x y z G = some G2)
    (k : ∀ H', Tu H H' → Rel K p G2 H' → Q H') : rSetL o i v H Q ∨ rSetD o i v H Q := by
  unfold dSet at e
  split at e
  · obtain ⟨a, rfl, ha⟩ := inv_ref dx
    split at e
    · rename_i g
      split at e
      · split at e
        · rename_i j hj
          cases e
          cases inv_int dy
          obtain ⟨vs, hl, hxs⟩ := r.lst ha g
          have tu : Tu H (upd H a (.lst (vs.set j v))) := Tu.set hl id
          exact .inl ⟨a, vs, _, j, rfl, rfl, hl, by rw [hxs.length]; exact hj, k _ tu (r.set (o := .lst _) ha hl id ⟨_, upd_same, (hxs.set dz j).mono tu (List.prefix_refl _)⟩)⟩
        · cases e
      · cases e
    · rename_i g
      split at e
      · rename_i kk hk
        split at e
        · rename_i hl0
          cases e
          cases den_key dy hk
          obtain ⟨vs, hl, hxs⟩ := r.dct ha g
          have tu : Tu H (upd H a (.dK (putK vs kk v))) := Tu.set hl id
          exact .inr ⟨a, _, rfl, DPut.k hl (by rw [kvs_len hxs]; exact big_lt hl0), k _ tu (r.set (o := .dct _) ha hl id ⟨_, upd_same, (kvs_put dz hxs).mono tu (List.prefix_refl _)⟩)⟩
        · cases e
      · cases e
    · cases e
  · cases e
theorem ss_setI {p2 : Pos} (hu : X.A.units + 65 < cLine) (ho : SE X W o mo) (hb : SE X W b mb) (ha : SE X W a ma) (has : ∀ v, assign (.Subscript o b p2) X.env v = (do
      let ov ← holding [v] (eval o X.env)
      let iv ← holding [v, ov] (eval b X.env)
      standAt p2
      holding [v, ov, iv] (setItem ov iv v)
      release [v, ov, iv] []))
    (hs : swapsWithSole [.Subscript o b p2] a pos.line X.env = pure false) (hw : swappedStores [.Subscript o b p2] a X.env = pure none) (h1 : (assignEach [.Subscript o b p2] X.env).map (·.2) = [assign (.Subscript o b p2) X.env]) :
    SS X W (.Assign [.Subscript o b p2] a pos) (mSetI mo mb ma) := by
  refine ps_imp (ps_asg ha (pg_sub ho hb (PSet.or set_list (set_dct (by omega))) has) hs hw h1) fun D σ H ⟨p, G, e, rl, ev, h⟩ => ⟨p, G, e, rl, ev, ?_⟩
  have h' : CoS X.K W p H (mSetI mo mb ma e G) D := h
  unfold mSetI at h'
  cases hm : ma e G with
  | bad => rw [hm] at h'; exact h'
  | exc c G1 => rw [hm] at h'; exact fun q H1 pr t1 r1 => h' q σ H1 pr t1 r1 (ev.mono t1 pr)
  | ok z G1 =>
    rw [hm, R.bind_ok] at h'
    intro q1 H1 v p1 t1 r1 dv
    refine ⟨q1, G1, e, r1, ev.mono t1 p1, ?_⟩
    cases hm2 : mo e G1 with
    | bad => rw [hm2] at h'; exact h'
    | exc c G2 => rw [hm2] at h'; exact fun q H2 pr t2 r2 => h' q σ H2 (p1.trans pr) (t1.trans t2) r2 ((ev.mono t1 p1).mono t2 pr)
    | ok x G2 =>
      rw [hm2, R.bind_ok] at h'
      intro q2 H2 w p2 t2 r2 dw
      refine ⟨q2, G2, e, r2, (ev.mono t1 p1).mono t2 p2, ?_⟩
      cases hm3 : mb e G2 with
      | bad => rw [hm3] at h'; exact h'
      | exc c G3 => rw [hm3] at h'; exact fun q H3 pr t3 r3 => h' q σ H3 ((p1.trans p2).trans pr) ((t1.trans t2).trans t3) r3 (((ev.mono t1 p1).mono t2 p2).mono t3 pr)
      | ok y G3 =>
        rw [hm3, R.bind_ok] at h'
        intro q3 H3 u p3 t3 r3 du
        dsimp only at h'
        cases hd : dSet x y z G3 with
        | none => rw [hd] at h'; exact h'.elim
        | some G4 =>
          rw [hd] at h'
          exact set_ok r3 (dw.mono t3 p3) du ((dv.mono t2 p2).mono t3 p3) hd fun H4 t4 r4 => h' q3 σ H4 ((p1.trans p2).trans p3) (((t1.trans t2).trans t3).trans t4) r4 ((((ev.mono t1 p1).mono t2 p2).mono t3 p3).mono t4 (List.prefix_refl _))
@[simp] def mAug (i : Nat) (a : ME0) : MS0 := fun e G => match e[i]? with
  | some (some (.int x)) => (match a e G with
    | .ok (.int y) G1 => .nx (e.set i (some (.int (x + y)))) G1
    | .ok _ _ => .bad
    | .exc c G1 => .exc c e G1
    | .bad => .bad)
  | _ => .bad
theorem ss_aug {i : Nat} {x : Str} {p2 : Pos} (hN : X.N.Nodup) (hi : X.N[i]? = some x) (hx : Loc X.env.scope x) (ha : SE X W a ma) (hf : X.fn x = true ∨ X.env.scope.names.lookup x = some .local) : SS X W (.AugAssign (.Name x p2) .Add a pos) (mAug i ma) := by
  refine ps_imp (ps_aug hN hi hx ha ip_add hf) fun D σ H ⟨p, G, e, rl, ev, h⟩ => ?_
  have h' : CoS X.K W p H (mAug i ma e G) D := h
  unfold mAug at h'
  split at h'
  · rename_i x0 hx0
    obtain ⟨v0, h0, d0⟩ := ev.2 i _ hx0
    cases inv_int d0
    refine ⟨_, h0, p, G, e, rl, ev, ?_⟩
    cases hm : ma e G with
    | bad => rw [hm] at h'; exact h'
    | exc c G1 => rw [hm] at h'; exact fun q H1 pr t1 r1 => h' q σ H1 pr t1 r1 (ev.mono t1 pr)
    | ok d G1 =>
      rw [hm] at h'
      intro q H1 v pr t1 r1 dv
      cases d with
      | int y =>
        cases inv_int dv
        exact ⟨x0, y, rfl, rfl, h' q _ H1 pr t1 r1 ((ev.mono t1 pr).set (.int _))⟩
      | _ => exact h'.elim
  · exact h'.elim
end
end Mw
namespace Mw
open PySem L2
open PyProof.Rows hiding St
def getF : List (Nat × D) → Nat → Option D
  | [], _ => none
  | (g, x) :: r, f => if g = f then some x else getF r f
def putFd (f : Nat) (v : D) : List (Nat × D) → List (Nat × D)
  | [] => [(f, v)]
  | (g, x) :: r => if g = f then (g, v) :: r else (g, x) :: putFd f v r
theorem fname_inj {i j : Nat} (hi : i < 8) (hj : j < 8) (h : fname i = fname j) : i = j := by
  have key : ∀ a : Fin 8, ∀ b : Fin 8, fname a.1 = fname b.1 → a.1 = b.1 := by decide +kernel
  exact key ⟨i, hi⟩ ⟨j, hj⟩ h
def isF (x : Str) : Bool := (List.range 8).any fun k => decide (fname k = x)
section
variable {X : Cx} {W : WX} {a b c o tg : Expr} {es : List Expr} {ma mb mc mo : ME0} {m : MA0} {pos : Pos} {K : PySem.W.Frag} {p : List Addr} {H : Hp}
theorem fvs_get {f : Nat} (hf : f < 8) : ∀ {gs : List (Str × V)} {fs : List (Nat × D)} {d : D}, FVs K p H gs fs → getF fs f = some d → ∃ v, gs.lookup (fname f) = some v ∧ Den K p H v d
  | _, _, _, .nil, e => by cases e
  | _, _, d, .cons (k := k) l h hs, e => by
    unfold getF at e
    split at e
    · rename_i hk
      cases e
      subst hk
      exact ⟨_, by simp [List.lookup], h⟩
    · rename_i hk
      obtain ⟨v, h1, h2⟩ := fvs_get hf hs e
      refine ⟨v, ?_, h2⟩
      have ne : (fname f == fname k) = false := beq_eq_false_iff_ne.mpr fun z => hk (fname_inj l hf z.symm)
      simp only [List.lookup, ne]
      exact h1
theorem fvs_put {f : Nat} (hf : f < 8) {v : V} {d : D} (dv : Den K p H v d) : ∀ {gs : List (Str × V)} {fs : List (Nat × D)}, FVs K p H gs fs → FVs K p H (putF (fname f) v gs) (putFd f d fs)
  | _, _, .nil => .cons hf dv .nil
  | _, _, .cons (k := k) l h hs => by
    unfold putF putFd
    by_cases hk : k = f
    · subst hk
      rw [if_pos rfl, if_pos rfl]
      exact .cons l dv hs
    · rw [if_neg hk, if_neg fun z => hk (fname_inj l hf z)]
      exact .cons l h (fvs_put hf dv hs)
theorem fvs_no {x : Str} (hx : isF x = false) : ∀ {gs : List (Str × V)} {fs : List (Nat × D)}, FVs K p H gs fs → gs.lookup x = none
  | _, _, .nil => rfl
  | _, _, .cons (k := k) l h hs => by
    have ne : (x == fname k) = false := beq_eq_false_iff_ne.mpr fun z => by
      unfold isF at hx
      have := List.any_eq_false.mp hx k (List.mem_range.mpr l)
      rw [z] at this
      exact this (decide_eq_true rfl)
    simp only [List.lookup, ne]
    exact fvs_no hx hs
theorem fvs_len : ∀ {gs : List (Str × V)} {fs : List (Nat × D)}, FVs K p H gs fs → gs.length = fs.length
  | _, _, .nil => rfl
  | _, _, .cons _ _ hs => by rw [List.length_cons, List.length_cons, fvs_len hs]
theorem Rel.ins {G : Gp} (r : Rel K p G H) {n : Nat} {a : Addr} {fs : List (Nat × D)} (e : p[n]? = some a) (g : G[n]? = some (.ins fs)) : ∃ dx gs, H a = some (.ins (He.ga K cname) dx gs) ∧ FVs K p H gs fs := r.ob n a _ e g
def dFld (f : Nat) (x : D) (G : Gp) : R D := match x with
  | .ref n => (match G[n]? with
    | some (.ins fs) => (match getF fs f with
      | some d => .ok d G
      | none => .bad)
    | _ => .bad)
  | _ => .bad
@[simp] def mFld (f : Nat) (a : ME0) : ME0 := fun e G => (a e G).bind fun x G => dFld f x G
theorem se_fld {f : Nat} (hf : f < 8) (cl : Cls X.K (He.ga X.K cname)) (na : NoAttr X.K (He.ga X.K cname) (fname f)) (ha : SE X W a ma) (hb : attributeBase a (fname f) X.env (eval a X.env) = eval a X.env) : SE X W (.Attribute a (fname f) pos) (mFld f ma) := by
  refine pe_imp (pe_fld ha hb) fun σ H Q ⟨p, G, e, rl, ev, h⟩ => ⟨p, G, e, rl, ev, h.bind fun x G1 q H1 v pr t r1 dv h1 => ?_⟩
  unfold dFld at h1
  split at h1
  · split at h1
    · rename_i g
      split at h1
      · rename_i d hd
        obtain ⟨b, rfl, hb⟩ := inv_ref dv
        obtain ⟨dx, gs, ho, hfs⟩ := r1.ins hb g
        obtain ⟨w, h2, h3⟩ := fvs_get hf hfs hd
        exact ⟨b, _, dx, gs, w, rfl, ho, cl, na, h2, h1.here r1 h3⟩
      · exact co_bad h1
    · exact co_bad h1
  · exact co_bad h1
def dSetF (f : Nat) (x z : D) (G : Gp) : Option Gp := match x with
  | .ref n => (match G[n]? with
    | some (.ins fs) => if fs.length < 100 then some (G.set n (.ins (putFd f z fs))) else none
    | _ => none)
  | _ => none
def mSetF (f : Nat) (o v : ME0) : MS0 := fun e G => match (v e G).bind fun z G => (o e G).bind fun x G => .ok (x, z) G with
  | .ok (x, z) G1 => (match dSetF f x z G1 with
    | some G2 => .nx e G2
    | none => .bad)
  | .exc c G1 => .exc c e G1
  | .bad => .bad
theorem ss_fld {f : Nat} {p2 : Pos} (hf : f < 8) (cl : Cls X.K (He.ga X.K cname)) (na : NoAttr X.K (He.ga X.K cname) (fname f)) (ho : SE X W o mo) (ha : SE X W a ma) (hs : swapsWith a (some (.Attribute o (fname f) p2)) pos.line X.env = pure false) :
    SS X W (.Assign [.Attribute o (fname f) p2] a pos) (mSetF f mo ma) := by
  refine ps_imp (ps_fld ho ha hs) fun D σ H ⟨p, G, e, rl, ev, h⟩ => ⟨p, G, e, rl, ev, ?_⟩
  have h' : CoS X.K W p H (mSetF f mo ma e G) D := h
  unfold mSetF at h'
  cases hm : ma e G with
  | bad => rw [hm] at h'; exact h'
  | exc c G1 => rw [hm] at h'; exact fun q H1 pr t1 r1 => h' q σ H1 pr t1 r1 (ev.mono t1 pr)
  | ok z G1 =>
    rw [hm, R.bind_ok] at h'
    intro q1 H1 v p1 t1 r1 dv
    refine ⟨q1, G1, e, r1, ev.mono t1 p1, ?_⟩
    cases hm2 : mo e G1 with
    | bad => rw [hm2] at h'; exact h'
    | exc c G2 => rw [hm2] at h'; exact fun q H2 pr t2 r2 => h' q σ H2 (p1.trans pr) (t1.trans t2) r2 ((ev.mono t1 p1).mono t2 pr)
    | ok x G2 =>
      rw [hm2, R.bind_ok] at h'
      intro q2 H2 w p2 t2 r2 dw
      dsimp only at h'
      cases hd : dSetF f x z G2 with
      | none => rw [hd] at h'; exact h'.elim
      | some G3 =>
        rw [hd] at h'
        unfold dSetF at hd
        split at hd
        · split at hd
          · rename_i g
            split at hd
            · rename_i hl
              cases hd
              obtain ⟨b, rfl, hb⟩ := inv_ref dw
              obtain ⟨dx, gs, ho, hfs⟩ := r2.ins hb g
              have tu : Tu H2 (upd H2 b (.ins (He.ga X.K cname) dx (putF (fname f) v gs))) := Tu.set ho id
              refine ⟨b, _, dx, gs, rfl, ho, cl, na, by rw [fvs_len hfs]; omega, ?_⟩
              refine h' q2 σ _ (p1.trans p2) ((t1.trans t2).trans tu) (r2.set (o := .ins _) hb ho id ⟨dx, _, upd_same, ?_⟩) (((ev.mono t1 p1).mono t2 p2).mono tu (List.prefix_refl _))
              exact (fvs_put hf (dv.mono t2 p2) hfs).mono tu (List.prefix_refl _)
            · cases hd
          · cases hd
        · cases hd
/-- o.f += e (whole numbers) -/
def mAugF (f : Nat) (o v : ME0) : MS0 := fun e G => match (o e G).bind fun x G => (dFld f x G).bind fun y G => (v e G).bind fun z G => .ok (x, y, z) G with
  | .ok (x, .int y, .int z) G1 => (match dSetF f x (.int (y + z)) G1 with
    | some G2 => .nx e G2
    | none => .bad)
  | .ok _ _ => .bad
  | .exc c G1 => .exc c e G1
  | .bad => .bad
theorem ss_augF {f : Nat} {p2 : Pos} (hf : f < 8) (cl : Cls X.K (He.ga X.K cname)) (na : NoAttr X.K (He.ga X.K cname) (fname f)) (ho : SE X W o mo) (ha : SE X W a ma) :
    SS X W (.AugAssign (.Attribute o (fname f) p2) .Add a pos) (mAugF f mo ma) := by
  refine ps_imp (ps_fldaug ho ha in_add) fun D σ H ⟨p, G, e, rl, ev, h⟩ => ⟨p, G, e, rl, ev, ?_⟩
  have h' : CoS X.K W p H (mAugF f mo ma e G) D := h
  unfold mAugF at h'
  cases hm : mo e G with
  | bad => rw [hm] at h'; exact h'
  | exc c G1 => rw [hm] at h'; exact fun q H1 pr t1 r1 => h' q σ H1 pr t1 r1 (ev.mono t1 pr)
  | ok x G1 =>
    rw [hm, R.bind_ok] at h'
    intro q1 H1 v p1 t1 r1 dv
    cases x with
    | ref n =>
      obtain ⟨b, rfl, hb⟩ := inv_ref dv
      cases g : G1[n]? with
      | none => rw [show dFld f (.ref n) G1 = .bad by simp only [dFld, g]] at h'; exact h'.elim
      | some o1 =>
        cases o1 with
        | lst _ => rw [show dFld f (.ref n) G1 = .bad by simp only [dFld, g]] at h'; exact h'.elim
        | dct _ => rw [show dFld f (.ref n) G1 = .bad by simp only [dFld, g]] at h'; exact h'.elim
        | ins fs =>
          cases hy : getF fs f with
          | none => rw [show dFld f (.ref n) G1 = .bad by simp only [dFld, g, hy]] at h'; exact h'.elim
          | some y =>
            rw [show dFld f (.ref n) G1 = .ok y G1 by simp only [dFld, g, hy], R.bind_ok] at h'
            obtain ⟨dx, gs, ho, hfs⟩ := r1.ins hb g
            obtain ⟨w, h2, h3⟩ := fvs_get hf hfs hy
            refine ⟨b, _, dx, gs, w, rfl, ho, cl, na, h2, q1, G1, e, r1, ev.mono t1 p1, ?_⟩
            cases hm2 : ma e G1 with
            | bad => rw [hm2] at h'; exact h'
            | exc c G2 => rw [hm2] at h'; exact fun q H2 pr t2 r2 => h' q σ H2 (p1.trans pr) (t1.trans t2) r2 ((ev.mono t1 p1).mono t2 pr)
            | ok z G2 =>
              rw [hm2, R.bind_ok] at h'
              intro q2 H2 u p2 t2 r2 du
              cases y with
              | int y =>
                cases z with
                | int z =>
                  cases inv_int h3
                  cases inv_int du
                  refine ⟨y, z, rfl, rfl, ?_⟩
                  dsimp only at h'
                  cases hd : dSetF f (.ref n) (.int (y + z)) G2 with
                  | none => rw [hd] at h'; exact h'.elim
                  | some G3 =>
                    rw [hd] at h'
                    unfold dSetF at hd
                    dsimp only at hd
                    split at hd
                    · rename_i g2
                      split at hd
                      · rename_i hl
                        cases hd
                        obtain ⟨dx2, gs2, ho2, hfs2⟩ := r2.ins (pre_get p2 hb) g2
                        have tu : Tu H2 (upd H2 b (.ins (He.ga X.K cname) dx2 (putF (fname f) (.int (y + z)) gs2))) := Tu.set ho2 id
                        refine ⟨dx2, gs2, ho2, by rw [fvs_len hfs2]; omega, ?_⟩
                        refine h' q2 σ _ (p1.trans p2) ((t1.trans t2).trans tu) (r2.set (o := .ins _) (pre_get p2 hb) ho2 id ⟨dx2, _, upd_same, ?_⟩) (((ev.mono t1 p1).mono t2 p2).mono tu (List.prefix_refl _))
                        exact (fvs_put hf (.int _) hfs2).mono tu (List.prefix_refl _)
                      · cases hd
                    · cases hd
                | _ => exact h'.elim
              | _ => exact h'.elim
    | _ => exact h'.elim
def isL (x : D) (G : Gp) : R Unit := match x with
  | .ref n => (match G[n]? with
    | some (.lst _) => .ok () G
    | _ => .bad)
  | _ => .bad
def dApp (x y : D) (G : Gp) : R D := match x with
  | .ref n => (match G[n]? with
    | some (.lst ds) => if ds.length < big then .ok .non (G.set n (.lst (ds ++ [y]))) else .bad
    | _ => .bad)
  | _ => .bad
@[simp] def mApp (o a : ME0) : ME0 := fun e G => (o e G).bind fun x G => (isL x G).bind fun _ G => (a e G).bind fun y G => dApp x y G
theorem se_app {apos : Pos} (ho : SE X W o mo) (ha : SE X W a ma) (hbase : attributeBase o "append" X.env (eval o X.env) = eval o X.env)
    (hfew : ((backTo pos (starEach [a] X.env)).all (fun x => !x.1) && (backToKw pos (keywordEach [] X.env)).all (fun x => x.1.isSome) && decide (([a] : List Expr).length + ([] : List Keyword).length + (if ([] : List Keyword).isEmpty then 0 else 1) < 30)) = true)
    (hline : (apos.endLine == pos.line) = true) (hs : starEach [a] X.env = (false, eval a X.env) :: starEach [] X.env) : SE X W (.Call (.Attribute o "append" apos) [a] [] pos) (mApp mo ma) := by
  refine pe_imp (pe_bm PySem.F.plainAttrs_list PySem.F.slot_list_append PySem.F.type_list_append mt_append ho (pa_cons ha pa_nil hs) hbase hfew hline hs rfl) fun σ H Q ⟨p, G, e, rl, ev, h⟩ => ⟨p, G, e, rl, ev, h.bind fun x G1 q H1 v pr t r1 dv h1 => ?_⟩
  cases x with
  | ref n =>
    obtain ⟨b, rfl, hb⟩ := inv_ref dv
    cases g : G1[n]? with
    | none => rw [show isL (.ref n) G1 = .bad by simp only [isL, g]] at h1; exact co_bad (α := D) h1
    | some o1 =>
      cases o1 with
      | dct _ => rw [show isL (.ref n) G1 = .bad by simp only [isL, g]] at h1; exact co_bad (α := D) h1
      | ins _ => rw [show isL (.ref n) G1 = .bad by simp only [isL, g]] at h1; exact co_bad (α := D) h1
      | lst ds =>
        rw [show isL (.ref n) G1 = .ok () G1 by simp only [isL, g], R.bind_ok] at h1
        obtain ⟨vs, hl, hxs⟩ := r1.lst hb g
        refine ⟨.inl ⟨rfl, vs, .inl (.inl hl)⟩, q, G1, e, r1, ev.mono t pr, h1.bind fun y G2 q2 H2 w pr2 t2 r2 dw h2 => ?_⟩
        unfold dApp at h2
        dsimp only at h2
        split at h2
        · rename_i g2
          split at h2
          · rename_i hlen
            obtain ⟨vs2, hl2, hxs2⟩ := r2.lst (pre_get pr2 hb) g2
            have tu : Tu H2 (upd H2 b (.lst (vs2 ++ [w]))) := Tu.set hl2 id
            refine ⟨b, vs2, w, rfl, rfl, hl2, big_lt (by rw [hxs2.length]; exact hlen), ?_⟩
            exact h2 q2 _ .non (List.prefix_refl _) tu (r2.set (o := .lst _) (pre_get pr2 hb) hl2 id ⟨_, upd_same, (hxs2.append (.cons dw .nil)).mono tu (List.prefix_refl _)⟩) .non
          · exact co_bad h2
        · exact co_bad h2
  | _ => exact co_bad (α := D) h1
def isDc (x : D) (G : Gp) : R Unit := match x with
  | .ref n => (match G[n]? with
    | some (.dct _) => .ok () G
    | _ => .bad)
  | _ => .bad
def dGet2 (x y z : D) (G : Gp) : R D := match x with
  | .ref n => (match G[n]? with
    | some (.dct kvs) => (match keyD y with
      | some k => .ok ((getK kvs k).getD z) G
      | none => .bad)
    | _ => .bad)
  | _ => .bad
@[simp] def mGet2 (o a b : ME0) : ME0 := fun e G => (o e G).bind fun x G => (isDc x G).bind fun _ G => (a e G).bind fun y G => (b e G).bind fun z G => dGet2 x y z G
def dPop2 (x y z : D) (G : Gp) : R D := match x with
  | .ref n => (match G[n]? with
    | some (.dct kvs) => (match keyD y with
      | some k => (match getK kvs k with
        | some d => .ok d (G.set n (.dct (dropD kvs k)))
        | none => .ok z G)
      | none => .bad)
    | _ => .bad)
  | _ => .bad
@[simp] def mPop2 (o a b : ME0) : ME0 := fun e G => (o e G).bind fun x G => (isDc x G).bind fun _ G => (a e G).bind fun y G => (b e G).bind fun z G => dPop2 x y z G
def dPop1 (x y : D) (G : Gp) : R D := match x with
  | .ref n => (match G[n]? with
    | some (.dct kvs) => (match keyD y with
      | some k => (match getK kvs k with
        | some d => .ok d (G.set n (.dct (dropD kvs k)))
        | none => .bad)
      | none => .bad)
    | _ => .bad)
  | _ => .bad
@[simp] def mPop1 (o a : ME0) : ME0 := fun e G => (o e G).bind fun x G => (isDc x G).bind fun _ G => (a e G).bind fun y G => dPop1 x y G
theorem isDc_inv {x : D} {G : Gp} : (∃ n kvs, x = .ref n ∧ G[n]? = some (.dct kvs) ∧ isDc x G = .ok () G) ∨ isDc x G = .bad := by
  unfold isDc
  split
  · rename_i n
    split
    · rename_i g
      exact .inl ⟨n, _, rfl, g, rfl⟩
    · exact .inr rfl
  · exact .inr rfl
theorem se_get2 {apos : Pos} (hu : X.A.units + 65 < cLine) (ho : SE X W o mo) (ha : SE X W a ma) (hb : SE X W b mb) (mm : M2 X o "get" apos a b pos) : SE X W (.Call (.Attribute o "get" apos) [a, b] [] pos) (mGet2 mo ma mb) := by
  refine pe_imp (pe_dget2 (by omega) ho ha hb mm) fun σ H Q ⟨p, G, e, rl, ev, h⟩ => ⟨p, G, e, rl, ev, h.bind fun x G1 q H1 v pr t r1 dv h1 => ?_⟩
  rcases isDc_inv (x := x) (G := G1) with ⟨n, kvs, rfl, g, e1⟩ | e1
  · rw [e1, R.bind_ok] at h1
    obtain ⟨d, rfl, hd⟩ := inv_ref dv
    obtain ⟨ws, hl, hk⟩ := r1.dct hd g
    refine ⟨d, rfl, .inl ⟨ws, .inl hl⟩, q, G1, e, r1, ev.mono t pr, h1.bind fun y G2 q2 H2 w pr2 t2 r2 dw h2 => ?_⟩
    refine ⟨q2, G2, e, r2, (ev.mono t pr).mono t2 pr2, h2.bind fun z G3 q3 H3 u pr3 t3 r3 du h3 => ?_⟩
    unfold dGet2 at h3
    dsimp only at h3
    split at h3
    · rename_i kvs3 g3
      split at h3
      · rename_i k hk3
        obtain ⟨ws3, hl3, hk3'⟩ := r3.dct (pre_get (pr2.trans pr3) hd) g3
        cases den_key (dw.mono t3 pr3) hk3
        refine ⟨_, DGet.k hl3, ?_⟩
        cases hg : getK kvs3 k with
        | none =>
          rw [(kvs_get hk3').2 hg]
          rw [hg] at h3
          exact h3.here r3 du
        | some dd =>
          obtain ⟨w3, e3, d3⟩ := (kvs_get hk3').1 dd hg
          rw [e3]
          rw [hg] at h3
          exact h3.here r3 d3
      · exact co_bad h3
    · exact co_bad h3
  · rw [e1] at h1
    exact co_bad (α := D) h1
theorem se_pop2 {apos : Pos} (ho : SE X W o mo) (ha : SE X W a ma) (hb : SE X W b mb) (mm : M2 X o "pop" apos a b pos) : SE X W (.Call (.Attribute o "pop" apos) [a, b] [] pos) (mPop2 mo ma mb) := by
  refine pe_imp (pe_dpop2 ho ha hb mm) fun σ H Q ⟨p, G, e, rl, ev, h⟩ => ⟨p, G, e, rl, ev, h.bind fun x G1 q H1 v pr t r1 dv h1 => ?_⟩
  rcases isDc_inv (x := x) (G := G1) with ⟨n, kvs, rfl, g, e1⟩ | e1
  · rw [e1, R.bind_ok] at h1
    obtain ⟨d, rfl, hd⟩ := inv_ref dv
    obtain ⟨ws, hl, hk⟩ := r1.dct hd g
    refine ⟨d, rfl, .inl ⟨ws, .inl hl⟩, q, G1, e, r1, ev.mono t pr, h1.bind fun y G2 q2 H2 w pr2 t2 r2 dw h2 => ?_⟩
    refine ⟨q2, G2, e, r2, (ev.mono t pr).mono t2 pr2, h2.bind fun z G3 q3 H3 u pr3 t3 r3 du h3 => ?_⟩
    unfold dPop2 at h3
    dsimp only at h3
    split at h3
    · rename_i kvs3 g3
      split at h3
      · rename_i k hk3
        have hd3 := pre_get (pr2.trans pr3) hd
        obtain ⟨ws3, hl3, hk3'⟩ := r3.dct hd3 g3
        cases den_key (dw.mono t3 pr3) hk3
        refine ⟨ws3, k, hl3, rfl, fun v3 e3 => ?_, fun e3 => ?_⟩
        · cases hg : getK kvs3 k with
          | none =>
            rw [(kvs_get hk3').2 hg] at e3
            cases e3
          | some dd =>
            rw [hg] at h3
            obtain ⟨w3, e4, d3⟩ := (kvs_get hk3').1 dd hg
            rw [e4] at e3
            cases e3
            have tu : Tu H3 (upd H3 d (.dK (dropK ws3 k))) := Tu.set hl3 id
            exact h3 q3 _ _ (List.prefix_refl _) tu (r3.set (o := .dct _) hd3 hl3 id ⟨_, upd_same, (kvs_drop hk3').mono tu (List.prefix_refl _)⟩) (d3.mono tu (List.prefix_refl _))
        · cases hg : getK kvs3 k with
          | none =>
            rw [hg] at h3
            exact h3.here r3 du
          | some dd =>
            obtain ⟨w3, e4, d3⟩ := (kvs_get hk3').1 dd hg
            rw [e4] at e3
            cases e3
      · exact co_bad h3
    · exact co_bad h3
  · rw [e1] at h1
    exact co_bad (α := D) h1
theorem se_pop1 {apos : Pos} (ho : SE X W o mo) (ha : SE X W a ma) (mm : M1 X o "pop" apos a pos) : SE X W (.Call (.Attribute o "pop" apos) [a] [] pos) (mPop1 mo ma) := by
  refine pe_imp (pe_dpop1 ho ha mm) fun σ H Q ⟨p, G, e, rl, ev, h⟩ => ⟨p, G, e, rl, ev, h.bind fun x G1 q H1 v pr t r1 dv h1 => ?_⟩
  rcases isDc_inv (x := x) (G := G1) with ⟨n, kvs, rfl, g, e1⟩ | e1
  · rw [e1, R.bind_ok] at h1
    obtain ⟨d, rfl, hd⟩ := inv_ref dv
    obtain ⟨ws, hl, hk⟩ := r1.dct hd g
    refine ⟨d, rfl, .inl ⟨ws, .inl hl⟩, q, G1, e, r1, ev.mono t pr, h1.bind fun y G2 q2 H2 w pr2 t2 r2 dw h2 => ?_⟩
    unfold dPop1 at h2
    dsimp only at h2
    split at h2
    · rename_i kvs3 g3
      split at h2
      · rename_i k hk3
        split at h2
        · rename_i dd hg
          have hd3 := pre_get pr2 hd
          obtain ⟨ws3, hl3, hk3'⟩ := r2.dct hd3 g3
          cases den_key dw hk3
          obtain ⟨w3, e4, d3⟩ := (kvs_get hk3').1 dd hg
          have tu : Tu H2 (upd H2 d (.dK (dropK ws3 k))) := Tu.set hl3 id
          exact ⟨ws3, k, w3, hl3, rfl, e4, h2 q2 _ _ (List.prefix_refl _) tu (r2.set (o := .dct _) hd3 hl3 id ⟨_, upd_same, (kvs_drop hk3').mono tu (List.prefix_refl _)⟩) (d3.mono tu (List.prefix_refl _))⟩
        · exact co_bad h2
      · exact co_bad h2
    · exact co_bad h2
  · rw [e1] at h1
    exact co_bad (α := D) h1
abbrev FM := List D → Gp → R D
def spM (K : PySem.W.Frag) (n : Nat) (f : FM) : Sp := fun vs H Q E => ∃ p G ds, Rel K p G H ∧ Dens K p H vs ds ∧ ds.length = n ∧ Co K (fun c d _ H => E c d H) [] p H (Den K) (f ds G) Q
theorem co_wx {α β : Type} {W W' : WX} {σ σ' : St} {G : Gp} {rel : List Addr → Hp → β → α → Prop} {r : R α} {Q : β → Hp → Prop} (h : Co K W σ p H rel r Q) (e : ∀ c d H, W c d σ H → W' c d σ' H) : Co K W' σ' p H rel r Q := by
  cases r with
  | ok d G => exact h
  | exc c G => exact fun q H' pr t rl => e _ _ _ (h q H' pr t rl)
  | bad => exact h
@[simp] def mCallF (n : Nat) (f : FM) (m : MA0) : ME0 := fun e G => (m e G).bind fun ds G => if ds.length = n then f ds G else .bad
variable {k : Nat} {f : Addr} {fd : FuncData} {ps : List Str} {F : FM}
abbrev FnM (X : Cx) (k : Nat) (f : Addr) (fd : FuncData) (ps : List Str) (F : FM) : Prop := FnOk X.prog X.w X.K X.mg X.base (L2.CX X.prog X.w) k f fd ps (spM X.K ps.length F)
theorem read_call {σ : St} {H : Hp} {Q : VK} (h : tE X.K W (mCallF ps.length F m) σ H Q) : tCallS (spM X.K ps.length F) (WE W) (tA X.K W m) σ H Q := by
  obtain ⟨p, G, e, rl, ev, h⟩ := h
  refine ⟨p, G, e, rl, ev, h.bind fun ds G1 q H1 vs pr t r1 dv h1 => ?_⟩
  split at h1
  · rename_i hl
    exact ⟨q, G1, ds, r1, dv, hl, co_wx (G := G1) h1 fun c d H z => z⟩
  · exact co_bad h1
theorem se_call {x : Str} {p0 : Pos} (tk : Takes X W) (Fn : FnM X k f fd ps F) (hr : Room k X.A) (hg : Gl X x) (hm : X.mg x = some (.ref f)) (hk : PySem.W.keepIn X.K (.ref f) = true) (hb : Binds X.K fd ps []) (ha : SA X W (a :: es) m) (hdb : (x == ("__debug__" : Str)) = false)
    (he : starEach (a :: es) X.env = (false, eval a X.env) :: starEach es X.env) (hpl : (backTo pos (starEach es X.env)).any (·.1) = false) : SE X W (.Call (.Name x p0) (a :: es) [] pos) (mCallF ps.length F m) :=
  pe_imp (pe_callS (E := WE W) Fn hr hg hm hk hb (fun σ => passAt tk σ) ha hdb he hpl) fun _ _ _ h => read_call h
theorem pe_callS0 {CX : CXT} {sp : Sp} {E : St → XK} {x : Str} {p0 : Pos} (Fn : FnOk X.prog X.w X.K X.mg X.base CX k f fd ps sp) (hr : Room k X.A) (hg : Gl X x) (hm : X.mg x = some (.ref f)) (hk : PySem.W.keepIn X.K (.ref f) = true) (hb : Binds X.K fd ps []) (hx : ∀ σ, PassesAt CX X σ (E σ)) (hdb : (x == ("__debug__" : Str)) = false) :
    PE X (.Call (.Name x p0) [] [] pos) (tCallS sp E tNil) := by
  refine ⟨fun pins s σ H Q I h => ?_⟩
  refine wpAny_Call_Name_kw (ld_glob I hg hm ?_ hdb)
  exact PySem.W.callWith_K0 I.kIn hk (run_fnS (us := []) Fn hr hb (hx σ) I .nil h)
theorem se_call0 {x : Str} {p0 : Pos} (tk : Takes X W) (Fn : FnM X k f fd ps F) (hr : Room k X.A) (hg : Gl X x) (hm : X.mg x = some (.ref f)) (hk : PySem.W.keepIn X.K (.ref f) = true) (hb : Binds X.K fd ps []) (hdb : (x == ("__debug__" : Str)) = false) :
    SE X W (.Call (.Name x p0) [] [] pos) (mCallF ps.length F maNil) := by
  refine pe_imp (pe_callS0 (E := WE W) Fn hr hg hm hk hb (fun σ => passAt tk σ) hdb) fun σ H Q h => ?_
  have h2 := read_call (X := X) (W := W) (ps := ps) (F := F) (m := maNil) h
  obtain ⟨p, G, e, rl, ev, h3⟩ := h2
  exact Co.here (d := ([] : List D)) (G := G) h3 rl .nil
/-- o.m(..) -/
def tMethS (C : Addr) (mn : Str) (sp : Sp) (E : St → XK) (ta : TE) (t : TA) : TE := fun σ H Q => ta σ H fun x H1 => ∃ a dx fs, x = .ref a ∧ H1 a = some (.ins C dx fs) ∧ fs.lookup mn = none ∧ t σ H1 fun vs H2 => sp (x :: vs) H2 Q (E σ)
theorem pe_methX {CX : CXT} {sp : Sp} {E : St → XK} {C : Addr} {mn : Str} {ta : TE} {t : TA} {apos : Pos} {pl : Sem Bool} (he : PE X o ta) (cl : Cls X.K C) (hm : Meth X.K C mn f) (Fn : FnOk X.prog X.w X.K X.mg X.base CX k f fd ps sp) (hr : Room k X.A) (hb : Binds X.K fd ps []) (hx : ∀ σ, PassesAt CX X σ (E σ)) (ha : PA X (a :: es) t)
    (hst : starEach (a :: es) X.env = (false, eval a X.env) :: starEach es X.env) (hpl : (backTo pos (starEach es X.env)).any (·.1) = false)
    (ht : eval (.Call (.Attribute o mn apos) (a :: es) [] pos) X.env = (do
      let ov ← eval o X.env
      standAt apos.atName
      let (f, first) ← holding [ov] (getMethod ov mn pl)
      callWith pos f first (backTo pos (starEach (a :: es) X.env)) (backToKw pos (keywordEach [] X.env)))) :
    PE X (.Call (.Attribute o mn apos) (a :: es) [] pos) (tMethS C mn sp E ta t) := by
  refine ⟨fun pins s σ H Q I h => ?_⟩
  refine PySem.W.methodCall_KW (pl := pl) (thn (he.run pins s σ H _ I h) fun u s1 ⟨x, H1, I1, rx, a, dx, fs, ex, ea, l, q⟩ => ?_) ht
  subst ex
  obtain rfl : u = Value.ref a := rx
  refine getmeth_ok I1 ea cl hm l ?_
  refine PySem.W.callWith_K (first := [.ref a]) (h₀ := X.base) I.ok.mod.kin hm.kp (thn (ha.run pos pins s1 σ H1 _ I1 q) fun us s2 ⟨vs, H2, I2, r, q2⟩ => ⟨I2.kIn, ?_⟩) hst hpl
  exact run_fnS (us := .ref a :: us) (vs := .ref a :: vs) Fn hr hb (hx σ) I2 (.cons rfl r) q2
theorem pe_methX0 {CX : CXT} {sp : Sp} {E : St → XK} {C : Addr} {mn : Str} {ta : TE} {apos : Pos} {pl : Sem Bool} (he : PE X o ta) (cl : Cls X.K C) (hm : Meth X.K C mn f) (Fn : FnOk X.prog X.w X.K X.mg X.base CX k f fd ps sp) (hr : Room k X.A) (hb : Binds X.K fd ps []) (hx : ∀ σ, PassesAt CX X σ (E σ))
    (ht : eval (.Call (.Attribute o mn apos) [] [] pos) X.env = (do
      let ov ← eval o X.env
      standAt apos.atName
      let (f, first) ← holding [ov] (getMethod ov mn pl)
      callWith pos f first (backTo pos (starEach [] X.env)) (backToKw pos (keywordEach [] X.env)))) :
    PE X (.Call (.Attribute o mn apos) [] [] pos) (tMethS C mn sp E ta tNil) := by
  refine ⟨fun pins s σ H Q I h => ?_⟩
  refine PySem.W.methodCall_KW (pl := pl) (thn (he.run pins s σ H _ I h) fun u s1 ⟨x, H1, I1, rx, a, dx, fs, ex, ea, l, q⟩ => ?_) ht
  subst ex
  obtain rfl : u = Value.ref a := rx
  refine getmeth_ok I1 ea cl hm l ?_
  exact PySem.W.callWith_K0 (first := [.ref a]) I1.kIn hm.kp (run_fnS (us := [.ref a]) (vs := [.ref a]) Fn hr hb (hx σ) I1 (.cons rfl .nil) q)
def isIn (x : D) (G : Gp) : R Unit := match x with
  | .ref n => (match G[n]? with
    | some (.ins _) => .ok () G
    | _ => .bad)
  | _ => .bad
@[simp] def mMeth (n : Nat) (f : FM) (o : ME0) (m : MA0) : ME0 := fun e G => (o e G).bind fun x G => (isIn x G).bind fun _ G => (m e G).bind fun ds G => if ds.length + 1 = n then f (x :: ds) G else .bad
theorem isIn_inv {x : D} {G : Gp} : (∃ n fs, x = .ref n ∧ G[n]? = some (.ins fs) ∧ isIn x G = .ok () G) ∨ isIn x G = .bad := by
  unfold isIn
  split
  · rename_i n
    split
    · rename_i g
      exact .inl ⟨n, _, rfl, g, rfl⟩
    · exact .inr rfl
  · exact .inr rfl
theorem read_meth {mn : Str} {tA' : TA} (hmn : isF mn = false) (ht : ∀ σ H Q, tA X.K W m σ H Q → tA' σ H Q) {σ : St} {H : Hp} {Q : VK} (h : tE X.K W (mMeth ps.length F mo m) σ H Q) : tMethS (He.ga X.K cname) mn (spM X.K ps.length F) (WE W) (tE X.K W mo) tA' σ H Q := by
  obtain ⟨p, G, e, rl, ev, h⟩ := h
  refine ⟨p, G, e, rl, ev, h.bind fun x G1 q H1 v pr t r1 dv h1 => ?_⟩
  rcases isIn_inv (x := x) (G := G1) with ⟨n, fs, rfl, g, e1⟩ | e1
  · rw [e1, R.bind_ok] at h1
    obtain ⟨b, rfl, hb⟩ := inv_ref dv
    obtain ⟨dx, gs, ho, hfs⟩ := r1.ins hb g
    refine ⟨b, dx, gs, rfl, ho, fvs_no hmn hfs, ht _ _ _ ⟨q, G1, e, r1, ev.mono t pr, h1.bind fun ds G2 q2 H2 vs pr2 t2 r2 dvs h2 => ?_⟩⟩
    split at h2
    · rename_i hl
      exact ⟨q2, G2, .ref n :: ds, r2, .cons (dv.mono t2 pr2) dvs, hl, co_wx (G := G2) h2 fun c d H z => z⟩
    · exact co_bad h2
  · rw [e1] at h1
    exact co_bad (α := D) h1
theorem se_meth {mn : Str} {apos : Pos} {pl : Sem Bool} (hmn : isF mn = false) (tk : Takes X W) (ho : SE X W o mo) (cl : Cls X.K (He.ga X.K cname)) (hm : Meth X.K (He.ga X.K cname) mn f) (Fn : FnM X k f fd ps F) (hr : Room k X.A) (hb : Binds X.K fd ps []) (ha : SA X W (a :: es) m)
    (hst : starEach (a :: es) X.env = (false, eval a X.env) :: starEach es X.env) (hpl : (backTo pos (starEach es X.env)).any (·.1) = false)
    (ht : eval (.Call (.Attribute o mn apos) (a :: es) [] pos) X.env = (do
      let ov ← eval o X.env
      standAt apos.atName
      let (f, first) ← holding [ov] (getMethod ov mn pl)
      callWith pos f first (backTo pos (starEach (a :: es) X.env)) (backToKw pos (keywordEach [] X.env)))) : SE X W (.Call (.Attribute o mn apos) (a :: es) [] pos) (mMeth ps.length F mo m) :=
  pe_imp (pe_methX (E := WE W) ho cl hm Fn hr hb (fun σ => passAt tk σ) ha hst hpl ht) fun _ _ _ h => read_meth hmn (fun _ _ _ q => q) h
theorem se_meth0 {mn : Str} {apos : Pos} {pl : Sem Bool} (hmn : isF mn = false) (tk : Takes X W) (ho : SE X W o mo) (cl : Cls X.K (He.ga X.K cname)) (hm : Meth X.K (He.ga X.K cname) mn f) (Fn : FnM X k f fd ps F) (hr : Room k X.A) (hb : Binds X.K fd ps [])
    (ht : eval (.Call (.Attribute o mn apos) [] [] pos) X.env = (do
      let ov ← eval o X.env
      standAt apos.atName
      let (f, first) ← holding [ov] (getMethod ov mn pl)
      callWith pos f first (backTo pos (starEach [] X.env)) (backToKw pos (keywordEach [] X.env)))) : SE X W (.Call (.Attribute o mn apos) [] [] pos) (mMeth ps.length F mo maNil) :=
  pe_imp (pe_methX0 (E := WE W) ho cl hm Fn hr hb (fun σ => passAt tk σ) ht) fun _ _ _ h => read_meth hmn (fun σ H Q ⟨p, G, e, rl, ev, q⟩ => Co.here (d := ([] : List D)) (G := G) q rl .nil) h
end
end Mw
namespace Mw
open PySem L2
open PyProof.Rows hiding St
section
variable {X : Cx} {W : WX} {a b c o tg : Expr} {es : List Expr} {ma mb mc mo : ME0} {m : MA0} {pos : Pos} {K : PySem.W.Frag} {p : List Addr} {H : Hp}
@[simp] def mChainT (f g : D → D → Gp → R Bool) (a b c : ME0) : En → Gp → R Bool := fun e G => (a e G).bind fun x G => (b e G).bind fun y G => (f x y G).bind fun k G => if k = true then (c e G).bind fun z G => g y z G else .ok false G
theorem st_chain (hu : X.A.units + 65 < cLine) (o o' : Cop) (ha : SE X W a ma) (hb : SE X W b mb) (hc : SE X W c mc) (hm : lastMarks [o.op, o'.op] [b, c] = false) : ST X W (.Compare a [o.op, o'.op] [b, c] pos) (mChainT o.f o'.f ma mb mc) := by
  obtain ⟨r, h1, h2⟩ := cop_ok (X := X) hu o
  obtain ⟨r', h1', h2'⟩ := cop_ok (X := X) hu o'
  refine pt_imp (pt_chain h1 h1' ha hb hc hm) fun σ H Q ⟨p, G, e, rl, ev, h⟩ => ?_
  refine ⟨p, G, e, rl, ev, h.bind fun x G1 q H1 v pr t r1 dv h1 => ?_⟩
  refine ⟨q, G1, e, r1, ev.mono t pr, h1.bind fun y G2 q2 H2 u pr2 t2 r2 du h2x => ?_⟩
  refine h2 W σ q2 G2 H2 v u x y _ r2 (dv.mono t2 pr2) du (h2x.bind fun k G3 q3 H3 w pr3 t3 r3 dk h3 => ⟨k, dk, ?_⟩)
  cases k with
  | false => exact ⟨false, rfl, Co.here (d := false) (G := G3) h3 r3 rfl⟩
  | true =>
    refine ⟨q3, G3, e, r3, ((ev.mono t pr).mono t2 pr2).mono t3 pr3, Co.bind (r := mc e G3) h3 fun z G4 q4 H4 w' pr4 t4 r4 dz h4 => ?_⟩
    refine h2' W σ q4 G4 H4 u w' y z _ r4 ((du.mono t3 pr3).mono t4 pr4) dz ?_
    cases hg : o'.f y z G4 with
    | bad => rw [hg] at h4; exact h4
    | exc cc G5 => rw [hg] at h4; exact h4
    | ok k G5 =>
      rw [hg] at h4
      exact fun q5 H5 w5 pr5 t5 r5 dk5 => ⟨k, dk5, h4 q5 H5 k pr5 t5 r5 rfl⟩
@[simp] def mRaise (c : Nat) : MS0 := fun e G => .exc c e G
structure ExcF (K : PySem.W.Frag) (mg : Str → Option Value) (c : Nat) : Prop where
  g : mg (xname c) = some (.ref (He.ga K (xname c)))
  x : PySem.W.excIn K (He.ga K (xname c)) He.veBase "ValueError.__new__" = true
  k : PySem.W.keepIn K (.ref (He.ga K (xname c))) = true
  b : PySem.W.subIn K (.ref (He.ga K (xname c))) (.type "BaseException") = some true
  t : PySem.W.typeIn K (.ref (He.ga K (xname c))) = some (.type "type")
theorem xname_plain (c : Nat) : (xname c == ("__debug__" : Str)) = false := by
  unfold xname
  split <;> decide +kernel
theorem ss_raise {c : Nat} {mt : Str} {j : Nat} {p1 p2 p3 : Pos} (hc : X.calm = true) (tk : Takes X W) (Ex : ExcF X.K X.mg c) (hg : Gl X (xname c)) : SS X W (.Raise (some (.Call (.Name (xname c) p1) [.Constant (.str mt) j p2] [] p3)) none pos) (mRaise c) := by
  refine ps_imp (ps_raise hc tk (pmk_own PySem.F.excBase_ValueError Ex.x Ex.g Ex.k (raises_own Ex.b Ex.t) hg (xname_plain c))) fun D σ H ⟨p, G, e, rl, ev, h⟩ => ?_
  exact h p σ H (List.prefix_refl _) (Tu.refl _) rl ev
def hdGo (xs : List Nat) : List (Nat × MS0) → Nat → MS0
  | [], c => fun e G => .exc c e G
  | (h, s) :: r, c => fun e G => if xs.contains c = true then (if exSub c h = true then (match s e G with
    | .exc _ _ _ => .bad
    | x => x) else hdGo xs r c e G) else .bad
def mTry (xs : List Nat) (b : MS0) (hs : List (Nat × MS0)) : MS0 := fun e G => match b e G with
  | .exc c e1 G1 => hdGo xs hs c e1 G1
  | r => r
def hdL (K : PySem.W.Frag) (hs : List (Nat × MS0)) : List (Value × (Addr → Value → Option Addr → TS)) := hs.map fun h => (.ref (He.ga K (xname h.1)), fun _ _ _ => tS K W0 h.2)
theorem read_hds {xs : List Nat} {D : Ends} (hx : ∀ c ∈ xs, ∀ h ∈ xs, PySem.W.exmOne K (.ref (He.ga K (xname c))) (.ref (He.ga K (xname h))) = some (exSub c h)) {c : Nat} {e : En} {G : Gp} : ∀ (hs : List (Nat × MS0)), (∀ h ∈ hs, h.1 ∈ xs) → CoS K W p H (hdGo xs hs c e G) D →
    ∀ q σ' H', p <+: q → Tu H H' → Rel K q G H' → Envs K q H' σ' e → wMany K W D (hdL K hs) (.ref (He.ga K (xname c))) none σ' H'
  | [], _, h => fun q σ' H' pr t rl ev => h q σ' H' pr t rl ev
  | (hc, s) :: r, hm, h => fun q σ' H' pr t rl ev => by
    unfold hdGo at h
    split at h
    · rename_i hcx
      have hcx' : c ∈ xs := by simpa using hcx
      refine ⟨exSub c hc, hx c hcx' hc (hm (hc, s) (by simp)), fun hb a _ => ?_, fun hb => ?_⟩
      · rw [if_pos hb] at h
        refine ⟨q, G, e, rl, ev, ?_⟩
        show CoS K W0 q H' (s e G) D
        have h2 := CoS.later (W := W) h pr t
        cases hs2 : s e G with
        | nx e5 G5 => rw [hs2] at h2; exact h2
        | ct e5 G5 => rw [hs2] at h2; exact h2
        | bk e5 G5 => rw [hs2] at h2; exact h2
        | rt d5 G5 => rw [hs2] at h2; exact h2
        | exc k5 e5 G5 => rw [hs2] at h2; exact h2.elim
        | bad => rw [hs2] at h2; exact h2.elim
      · rw [if_neg (by rw [hb]; decide)] at h
        exact read_hds hx r (fun z hz => hm z (List.mem_cons_of_mem _ hz)) h q σ' H' pr t rl ev
    · exact h.elim
theorem ss_try {xs : List Nat} {body : List Stmt} {h₀ : ExceptHandler} {hds : List ExceptHandler} {mb : MS0} {hs : List (Nat × MS0)} (hx : ∀ c ∈ xs, ∀ h ∈ xs, PySem.W.exmOne X.K (.ref (He.ga X.K (xname c))) (.ref (He.ga X.K (xname h))) = some (exSub c h)) (hm : ∀ h ∈ hs, h.1 ∈ xs)
    (hst : X.stack = X.env :: X.outer) (hf : X.env.frame = some X.env.locals) (tk : Takes X W)
    (hb : ∀ (W' : WX) (pn : List (Addr × Obj)) (xe : Value → Shared → Prop), Takes (X.tr pn xe) W' → PassesOwn (model X.prog X.w) X.A X.env xe → SB (X.tr pn xe) W' body mb)
    (hh : HdsOk X (h₀ :: hds) (hdL X.K hs)) : SS X W (.Try body (h₀ :: hds) [] [] pos) (mTry xs mb hs) := by
  refine ps_imp (ps_try_many (tb := fun W' => tS X.K W' mb) hst hf tk hb hh) fun D σ H ⟨p, G, e, rl, ev, h⟩ => ⟨p, G, e, rl, ev, ?_⟩
  have h' : CoS X.K W p H (mTry xs mb hs e G) D := h
  show CoS X.K (wMany X.K W D (hdL X.K hs)) p H (mb e G) D
  unfold mTry at h'
  cases hm2 : mb e G with
  | nx e5 G5 => rw [hm2] at h'; exact h'
  | ct e5 G5 => rw [hm2] at h'; exact h'
  | bk e5 G5 => rw [hm2] at h'; exact h'
  | rt d5 G5 => rw [hm2] at h'; exact h'
  | bad => rw [hm2] at h'; exact h'
  | exc c e1 G1 =>
    rw [hm2] at h'
    exact read_hds hx hs hm h'
end
end Mw
namespace Mw
open PySem L2 L2.DX
open PyProof.Rows hiding St
abbrev kvOf (e : Str × Int) : Key × V := (Sum.inr e.1, V.int e.2)
def encKV (e : Str × Int) : PyData := .tuple [.str e.1, .int e.2]
def leKV (a b : Str × Int) : Bool := leS a.1 b.1
theorem dataLt_kv {x y : Str} {i j : Int} (h : x ≠ y) : PySem.W.dataLt (.tuple [.str x, .int i]) (.tuple [.str y, .int j]) = decide (x.cps.toList < y.cps.toList) := by
  have hne : (Sum.inr x.cps.toList : Int ⊕ List Nat) ≠ Sum.inr y.cps.toList := fun z => h (PySem.W.str_of_cps (Sum.inr.inj z))
  rw [← PySem.W.dataLt_str]
  unfold PySem.W.dataLt
  simp only [PySem.W.keyToks, PySem.W.keyToksAll, List.cons_append, List.nil_append]
  rw [show ∀ a b : List (Int ⊕ List Nat), PyProof.Rows.lexLt PyProof.Rows.itemOrd (Sum.inl 1 :: a) (Sum.inl 1 :: b) = PyProof.Rows.lexLt PyProof.Rows.itemOrd a b from fun a b => PySem.W.lex_pre [.inl 1] a b]
  exact PySem.W.lex_atom hne _ _
theorem dataLe_kv {a b : Str × Int} (h : a.1 ≠ b.1) : PySem.W.dataLe false encKV a b = leKV a b := by
  show (!PySem.W.dataLt (encKV b) (encKV a)) = _
  unfold encKV
  rw [dataLt_kv (Ne.symm h)]
  rfl
theorem dataLe_self (a : Str × Int) : PySem.W.dataLe false encKV a a = true := by
  show (!PySem.W.dataLt (encKV a) (encKV a)) = true
  unfold PySem.W.dataLt
  rw [PyProof.Rows.lex_irrefl]
  rfl
theorem leKV_self (a : Str × Int) : leKV a a = true := by
  unfold leKV
  exact leS_iff.mpr (List.le_refl _)
/-- d.items() -/
def rItemsK : V → List V → Hp → VK → Prop := fun x xs H Q => ∃ (a : Addr) (kvs : List (Key × V)), x = .ref a ∧ xs = [] ∧ H a = some (.dK kvs) ∧ ∀ p, H p = none → Q (.ref p) (upd H p (itemsO p a))
def rSortKV : List V → Hp → VK → Prop := fun vs H Q => ∃ (p a : Addr) (ks : List (Str × Int)), vs = [.ref p] ∧ H p = some (itemsO p a) ∧ H a = some (.dK (ks.map kvOf)) ∧
  ∀ (H' : Hp) (l : Addr) (zs : List (Addr × Str × Int)), (∀ b o, H b = some o → H' b = some o) → H l = none → H' l = some (.lst (zs.map fun z => V.ref z.1)) → zs.map (·.2) = ks.mergeSort leKV →
    (∀ z ∈ zs, H z.1 = none ∧ H' z.1 = some (.tup [.str z.2.1, .int z.2.2])) → Q (.ref l) H'
section
variable {X : Cx}
theorem mt_itemsK : MtR X "dict.items" rItemsK := by
  intro pins s σ H x xs v us Q I rx rxs h
  obtain ⟨a, kvs, rfl, rfl, ha, q⟩ := h
  cases rx
  cases rxs
  obtain ⟨z, hd, vs, rel, o, es, ep, ho, hx, hdat, _⟩ := dk_of I.hok ha
  refine DT.callItems (es := es) (ep := ep) hd ⟨o, ho, hx, hdat⟩ ?_
  have hf : H s.heap.objs.size = none := I.hok.fresh (Nat.le_refl _)
  exact ⟨.ref s.heap.objs.size, upd H s.heap.objs.size (itemsO s.heap.objs.size a), I.laid (t' := s.toks) (fun b u e => Heap.get?_push_of_some _ e) (Nat.le_refl _) (itemsO_ok (Heap.get?_push_size _ rfl)), rfl, q _ hf⟩
theorem kv_at {prog : Program} {w : World} {es : List DictEntry} {vs : List (Key × Value)} {ks : List (Str × Int)} (h1 : KV (ks.map kvOf) vs) (h2 : Pairs (mixKind prog w) es vs) : ∀ {j : Nat} {en : DictEntry}, es[j]? = some en → ∃ e t t', ks[j]? = some e ∧ en.key = .str e.1 t ∧ en.val = .int e.2 t' := by
  induction h2 generalizing ks with
  | nil => intro j en h; simp at h
  | @cons e kv es vs k1 k2 hr ih =>
    cases ks with
    | nil => cases h1
    | cons z ks =>
      cases h1 with
      | cons hz hzs =>
        intro j en h
        cases j with
        | zero =>
          simp at h
          subst h
          obtain ⟨hz1, t', hz2⟩ := hz
          have k1' : keyIs kv.1 e.key = true := k1
          rw [← hz1] at k1'
          rcases keyIs_shape k1' with ⟨i, t, q1, q2⟩ | ⟨y, t, q1, q2⟩
          · exact nomatch q1
          · have q1' : z.1 = y := Sum.inr.inj q1
            exact ⟨z, t, t', rfl, by rw [q2, q1'], by rw [k2]; exact hz2⟩
        | succ j => exact ih hzs (by simpa using h)
theorem cr_sortKV (hc : X.calm = true) (hu : X.A.units + 64 < cLine) : CallR X (.builtin "sorted") rSortKV := by
  intro pins s σ H xs us Q I r h
  obtain ⟨p, a, ks, rfl, hp, ha, q⟩ := h
  obtain rfl := Vals.ref1 r
  have view : s.heap.IsItemsView p a := (show ObjOk X.prog X.w H s.heap p (itemsO p a) from I.hok p _ hp).1
  obtain ⟨z, hd, vs, rel, o, es, ep, ho, hx, hdat, his, hpr, hn⟩ := dk_of I.hok ha
  have l1 : (ks.map kvOf).length = vs.length := Paired.length rel
  rw [List.length_map] at l1 z
  have l2 : es.toList.length = vs.length := hpr.length
  rw [Array.length_toList] at l2
  have hh : X.A.handled = none := I.ok.hd hc
  refine DT.sortedI (es := es) (ep := ep) hh view ⟨o, ho, hx, hdat⟩ (by omega) fun h' tk as hk hlt hl hG => ?_
  have lak : as.length = ks.length := by omega
  have nd : as.Nodup := List.Pairwise.imp (fun h => Nat.ne_of_lt h) hG.rise
  have keysEq : ∀ {l1 : List (Key × V)} {l2 : List (Key × Value)}, KV l1 l2 → l1.map (·.1) = l2.map (·.1) := by
    intro l1 l2 h
    unfold KV at h
    induction h with
    | nil => rfl
    | cons hz _ ih => rw [List.map_cons, List.map_cons, ih, hz.1]
  have ndk : (ks.map (·.1)).Nodup := by
    have e := keysEq rel
    rw [List.map_map] at e
    rw [← e] at hn
    have hn' : (ks.map fun e => (Sum.inr e.1 : Key)).Nodup := hn
    rw [List.nodup_iff_pairwise_ne, List.pairwise_map] at hn' ⊢
    exact hn'.imp fun hne hz => hne (by rw [hz])
  -- the pairs that were made
  have pr : ∀ (j : Nat) (b : Addr), as[j]? = some b → ∃ (e : Str × Int) (t t' : Tok), ks[j]? = some e ∧ h'.get? b = some { cls := .type "tuple", data := .seq #[Value.str e.1 t, Value.int e.2 t'] } := by
    intro j b hj
    obtain ⟨en, he, hg⟩ := hG.pairs j b hj
    have he' : es.toList[j]? = some en := by rw [Array.getElem?_toList]; exact he
    obtain ⟨e, t, t', h1, h2, h3⟩ := kv_at rel hpr he'
    exact ⟨e, t, t', h1, by rw [hg, h2, h3]⟩
  have hob : (h'.push { cls := .type "list", data := .seq (as.map Value.ref).toArray }).get? h'.objs.size = some (seqObj "list" (as.map Value.ref).toArray 0) := Heap.get?_push_size _ rfl
  have kb : ∀ b o, s.heap.get? b = some o → (h'.push { cls := .type "list", data := .seq (as.map Value.ref).toArray }).get? b = some o := fun b o e => Heap.get?_push_of_some _ (hk b o e)
  have ne0 : ∀ b o, h'.get? b = some o → b ≠ h'.objs.size := fun b o e => Nat.ne_of_lt (Heap.lt_size e)
  generalize hh2 : h'.push { cls := .type "list", data := .seq (as.map Value.ref).toArray } = h2 at hob kb ⊢
  have ka : ∀ b o, h'.get? b = some o → h2.get? b = some o := fun b o e => by rw [← hh2]; exact Heap.get?_push_of_some _ e
  -- the sort
  have each : ∀ (L : List Addr) (M : List (Str × Int)), L.length = M.length → (∀ (j : Nat) (b : Addr), L[j]? = some b → ∃ (e : Str × Int) (t t' : Tok), M[j]? = some e ∧ h'.get? b = some { cls := .type "tuple", data := .seq #[Value.str e.1 t, Value.int e.2 t'] }) →
      PySem.W.EachIs (fun v (b : Addr × Str × Int) => v = Value.ref b.1) (L.map Value.ref) (L.zip M) ∧ PySem.W.EachIs (fun v (b : Addr × Str × Int) => ∃ as, Reads h2 v (encKV b.2) as ∧ h'.objs.size ∉ as) (L.map Value.ref) (L.zip M) := by
    intro L
    induction L with
    | nil => intro M _ _; exact ⟨.nil, .nil⟩
    | cons b L ih =>
      intro M hL hp
      cases M with
      | nil => cases hL
      | cons e M =>
        obtain ⟨i1, i2⟩ := ih M (by simpa using hL) fun j b' hj => by
          obtain ⟨e', t, t', g1, g2⟩ := hp (j + 1) b' (by simpa using hj)
          exact ⟨e', t, t', by simpa using g1, g2⟩
        obtain ⟨e', t, t', g1, g2⟩ := hp 0 b rfl
        have ee : e' = e := (Option.some.inj g1).symm
        subst ee
        refine ⟨.cons rfl i1, .cons ⟨_, Reads.tuple (ka _ _ g2) rfl rfl (ReadsAll.cons (Reads.str _ _) (ReadsAll.cons (Reads.int _ _) ReadsAll.nil)), ?_⟩ i2⟩
        have := ne0 _ _ g2
        first
          | (simp; done)
          | (simp; exact fun z => this z.symm)
  obtain ⟨each1, each2⟩ := each as ks lak pr
  have mapz : (as.zip ks).map (·.2) = ks := List.map_snd_zip (by omega)
  have enc2 : (as.zip ks).map (fun b => encKV b.2) = ks.map encKV := by
    rw [show (fun b : Addr × Str × Int => encKV b.2) = encKV ∘ (·.2) from rfl, ← List.map_map, mapz]
  refine PySem.W.list_sort_data (A := X.A.in1) (s := { s with heap := h2, toks := tk }) (bs := as.zip ks) (enc := fun b => encKV b.2) (R := fun v (b : Addr × Str × Int) => v = Value.ref b.1) hob each1 each2 ?_ ?_ (by rw [List.length_zip]; omega) (fun b _ => ?_) fun out ol oe => ?_
  · rw [enc2]
    intro d hd d' hd'
    obtain ⟨e, _, rfl⟩ := List.mem_map.mp hd
    obtain ⟨e', _, rfl⟩ := List.mem_map.mp hd'
    unfold encKV
    simp [PySem.W.alike, PySem.W.alikeAll]
  · rw [enc2]
    refine .inl fun d hd => ?_
    obtain ⟨e, _, rfl⟩ := List.mem_map.mp hd
    exact ⟨_, _, rfl⟩
  · show X.A.units + 1 + 1 + (encKV b.2).depth < cLine
    have : (encKV b.2).depth ≤ 1 := by
      unfold encKV
      simp [PyData.depth, PyData.depthAll]
    omega
  · show EP X pins σ Q (.ref h'.objs.size) { s with heap := sortedHeap h2 h'.objs.size (as.map Value.ref) (List.toArray out), toks := tk }
    generalize hzs : (as.zip ks).mergeSort (PySem.W.dataLe false fun b => encKV b.2) = zs at oe
    have pz : zs.Perm (as.zip ks) := by rw [← hzs]; exact List.mergeSort_perm _ _
    have hout : out = zs.map fun z => Value.ref z.1 := by
      clear ol hzs pz
      induction oe with
      | nil => rfl
      | cons hr _ ih => rw [List.map_cons, ← ih, hr]
    have idx : ∀ z ∈ zs, ∃ j : Nat, as[j]? = some z.1 ∧ ks[j]? = some z.2 := by
      intro z' hz'
      obtain ⟨j, hj⟩ := List.mem_iff_getElem?.mp (pz.mem_iff.mp hz')
      exact ⟨j, List.getElem?_zip_eq_some.mp hj⟩
    have hsort : zs.map (·.2) = ks.mergeSort leKV := by
      rw [← hzs, PySem.W.sort_maps (r := PySem.W.dataLe false fun b : Addr × Str × Int => encKV b.2) (s := PySem.W.dataLe false encKV) (f := fun z : Addr × Str × Int => z.2) (fun _ _ _ _ => rfl), mapz]
      refine PySem.W.sort_congr fun x hx y hy => ?_
      by_cases hxy : x.1 = y.1
      · have e : x = y := by
          obtain ⟨i, hi⟩ := List.mem_iff_getElem?.mp hx
          obtain ⟨j, hj⟩ := List.mem_iff_getElem?.mp hy
          have e1 : (ks.map (·.1))[i]? = some x.1 := by rw [List.getElem?_map, hi]; rfl
          have e2 : (ks.map (·.1))[j]? = some y.1 := by rw [List.getElem?_map, hj]; rfl
          have e3 : i = j := (List.getElem?_inj (List.getElem?_eq_some_iff.mp e1).1 ndk).mp (by rw [e1, e2, hxy])
          subst e3
          rw [hi] at hj
          exact Option.some.inj hj
        subst e
        rw [dataLe_self, leKV_self]
      · exact dataLe_kv hxy
    have kF : ∀ b o, b ≠ h'.objs.size → h2.get? b = some o → (sortedHeap h2 h'.objs.size (as.map Value.ref) (List.toArray out)).get? b = some o := fun b o hb e => (PyProof.Rows.sortedHeap_old hb (Heap.lt_size e)).trans e
    have kS : ∀ b o, s.heap.get? b = some o → (sortedHeap h2 h'.objs.size (as.map Value.ref) (List.toArray out)).get? b = some o := fun b o e => kF b o (ne0 _ _ (hk b o e)) (kb b o e)
    obtain ⟨eF, heF⟩ := PyProof.Rows.sortedHeap_at (vs := as.map Value.ref) (out := List.toArray out) hob
    have I1 : Inv X pins σ H { s with heap := sortedHeap h2 h'.objs.size (as.map Value.ref) (List.toArray out), toks := tk } := I.kept (t' := tk) kS
    have hn0 : H h'.objs.size = none := I.hok.fresh (Nat.le_of_lt hlt)
    have hlen : (zs.map fun z => V.ref z.1).length ≤ sizeLine := by
      have e := pz.length_eq
      rw [List.length_zip] at e
      rw [List.length_map]
      omega
    have rv : Vals (zs.map fun z => V.ref z.1) (List.toArray out).toList := by
      rw [hout]
      exact vals_maps (fun z : Addr × Str × Int => V.ref z.1) (fun z => Value.ref z.1) zs fun _ _ => rfl
    have I2 : Inv X pins σ (upd H h'.objs.size (.lst (zs.map fun z => V.ref z.1))) { s with heap := sortedHeap h2 h'.objs.size (as.map Value.ref) (List.toArray out), toks := tk } :=
      I1.take (h' := sortedHeap h2 h'.objs.size (as.map Value.ref) (List.toArray out)) (t' := tk) (fun b ob _ e => e) (I.fpOk (Nat.le_of_lt hlt) hn0) ⟨hlen, (List.toArray out).toList, eF, rv, heF⟩
    obtain ⟨H2, I3, g, qt⟩ := takeT (P := fun b vs => ∃ (j : Nat) (e : Str × Int), as[j]? = some b ∧ ks[j]? = some e ∧ vs = [.str e.1, .int e.2]) I as _ I2 nd fun b hb => by
      obtain ⟨j, hj⟩ := List.mem_iff_getElem?.mp hb
      obtain ⟨e, t, t', he, hg⟩ := pr j b hj
      have hbl : s.heap.objs.size ≤ b := Nat.le_of_lt (hG.above b hb)
      refine ⟨hbl, ?_, [.str e.1, .int e.2], ⟨j, e, hj, he, rfl⟩, fun H3 => ⟨(by rw [sizeLine_eq]; show 2 ≤ 16777216; omega), [Value.str e.1 t, Value.int e.2 t'], .cons ⟨_, rfl⟩ (.cons ⟨_, rfl⟩ .nil), ⟨_, kF _ _ (ne0 _ _ hg) (ka _ _ hg), rfl, 0, rfl⟩⟩⟩
      rw [upd_ne (ne0 _ _ hg)]
      exact I.hok.fresh hbl
    have gr : ∀ b o, H b = some o → H2 b = some o := fun b o e => g b o (by rw [upd_ne (ne_of_none e hn0)]; exact e)
    refine ⟨.ref h'.objs.size, H2, I3, rfl, q H2 h'.objs.size zs gr hn0 (g _ _ upd_same) hsort fun z' hz' => ?_⟩
    obtain ⟨i, i1, i2⟩ := idx z' hz'
    obtain ⟨vs', ⟨j, e, j1, j2, ev⟩, hH⟩ := qt z'.1 (List.mem_of_getElem? i1)
    have eij : i = j := (List.getElem?_inj (List.getElem?_eq_some_iff.mp i1).1 nd).mp (i1.trans j1.symm)
    subst eij
    have ee : e = z'.2 := Option.some.inj (j2.symm.trans i2)
    rw [ev, ee] at hH
    exact ⟨I.hok.fresh (Nat.le_of_lt (hG.above _ (List.mem_of_getElem? i1))), hH⟩
end
def kvI? : List (Key × D) → Option (List (Str × Int))
  | [] => some []
  | (.inr x, .int i) :: r => (kvI? r).map ((x, i) :: ·)
  | _ :: _ => none
def sortKV (ks : List (Str × Int)) : List (Str × Int) := ks.mergeSort leKV
def pairD (e : Str × Int) : D := .tup [.str e.1, .int e.2]
def dSItems (x : D) (G : Gp) : R D := match x with
  | .ref n => (match G[n]? with
    | some (.dct kvs) => (match kvI? kvs with
      | some ks => .ok (.ref G.length) (G ++ [.lst ((sortKV ks).map pairD)])
      | none => .bad)
    | _ => .bad)
  | _ => .bad
@[simp] def mSItems (o : ME0) : ME0 := fun e G => (o e G).bind fun x G => dSItems x G
section
variable {X : Cx} {W : WX} {o : Expr} {mo : ME0} {pos : Pos} {K : PySem.W.Frag} {p : List Addr} {H : Hp}
theorem kvI_ok : ∀ {ws : List (Key × V)} {kvs : List (Key × D)} {ks : List (Str × Int)}, KVs K p H ws kvs → kvI? kvs = some ks → ws = ks.map kvOf
  | _, _, ks, .nil, e => by cases e; rfl
  | _, _, ks, .cons (k := k) (d := d) (ds := ds) h hs, e => by
    unfold kvI? at e
    split at e
    · cases ‹_ :: _ = []›
    · rename_i x i r q
      cases q
      cases e2 : kvI? ds with
      | none => rw [e2] at e; cases e
      | some ms =>
        rw [e2] at e
        cases e
        rw [kvI_ok hs e2, inv_int h]
        rfl
    · cases e
theorem se_sitems {p0 apos cpos : Pos} (hc : X.calm = true) (hu : X.A.units + 65 < cLine) (hg : Gl X "sorted") (hm : X.mg "sorted" = none) (ho : SE X W o mo) (hbase : attributeBase o "items" X.env (eval o X.env) = eval o X.env) (hline : (apos.endLine == cpos.line) = true) :
    SE X W (.Call (.Name "sorted" p0) [.Call (.Attribute o "items" apos) [] [] cpos] [] pos) (mSItems mo) := by
  have h1 : PE X (.Call (.Attribute o "items" apos) [] [] cpos) (tBM0 X.K "dict" rItemsK (tE X.K W mo)) := pe_bm0 PySem.F.plainAttrs_dict PySem.F.slot_dict_items PySem.F.type_dict_items mt_itemsK ho hbase hline
  refine pe_imp (pe_callB (cr_sortKV hc (by omega)) hg hm (by decide +kernel) (pa_cons h1 pa_nil rfl) (by decide) (by decide) rfl rfl) fun σ H Q ⟨p, G, e, rl, ev, h⟩ => ⟨p, G, e, rl, ev, h.bind fun x G1 q H1 v pr t r1 dv h2 => ?_⟩
  unfold dSItems at h2
  split at h2
  · split at h2
    · rename_i g
      split at h2
      · rename_i ks hks
        obtain ⟨d, rfl, hd⟩ := inv_ref dv
        obtain ⟨ws, hl, hk⟩ := r1.dct hd g
        cases kvI_ok hk hks
        refine ⟨.inr (.inr (.inl ⟨rfl, .inl ⟨_, hl⟩⟩)), d, _, rfl, rfl, hl, fun b hb => ?_⟩
        refine ⟨b, d, ks, rfl, upd_same, by rw [upd_ne (ne_of_none hl hb)]; exact hl, fun H' l zs ext hnl hl' hz hzt => ?_⟩
        have rb : Rel X.K q G1 (upd H1 b (itemsO b d)) := r1.tup hb
        have tu1 : Tu H1 (upd H1 b (itemsO b d)) := Tu.new hb
        have tu2 : Tu (upd H1 b (itemsO b d)) H' := fun c o' e' _ => ext c o' e'
        have r2 : Rel X.K q G1 H' := rb.keep tu2 fun c hcm => by
          obtain ⟨nn, hnn⟩ := List.getElem?_of_mem hcm
          obtain ⟨oo, _, hoo⟩ := rb.get hnn
          obtain ⟨u, hu1, _⟩ := hoo.there
          rw [hu1]
          exact ext c u hu1
        -- the list and its tuples
        have hlq : l ∉ q := fun hm2 => by
          obtain ⟨nn, hnn⟩ := List.getElem?_of_mem hm2
          obtain ⟨oo, _, hoo⟩ := rb.get hnn
          obtain ⟨u, hu1, _⟩ := hoo.there
          rw [hnl] at hu1
          cases hu1
        have dz : ∀ zs' : List (Addr × Str × Int), (∀ z ∈ zs', H' z.1 = some (.tup [.str z.2.1, .int z.2.2])) → Dens X.K (q ++ [l]) H' (zs'.map fun z => V.ref z.1) ((zs'.map (·.2)).map pairD) := by
          intro zs'
          induction zs' with
          | nil => intro _; exact .nil
          | cons z zs' ih => exact fun hz' => .cons (.tup (hz' z (by simp)) (.cons (.str _) (.cons (.int _) .nil))) (ih fun y hy => hz' y (List.mem_cons_of_mem _ hy))
        have dd := dz zs fun z hz' => (hzt z hz').2
        rw [hz] at dd
        have rn : Rel X.K (q ++ [l]) (G1 ++ [.lst ((sortKV ks).map pairD)]) H' := by
          refine ⟨by rw [List.length_append, List.length_append, r2.len]; rfl, ?_, fun n a u e' g' => ?_⟩
          · rw [List.nodup_append]
            refine ⟨r2.nd, by simp, fun x hx y hy => ?_⟩
            rw [List.mem_singleton] at hy
            subst hy
            intro z
            subst z
            exact hlq hx
          · by_cases hnl2 : n < q.length
            · rw [List.getElem?_append_left hnl2] at e'
              rw [List.getElem?_append_left (by rw [← r2.len]; exact hnl2)] at g'
              exact (r2.ob n a u e' g').mono (Tu.refl _) (pre_app q l) rfl
            · have h1 : n < (q ++ [l]).length := (List.getElem?_eq_some_iff.mp e').1
              have h2 : n = q.length := by rw [List.length_append, List.length_singleton] at h1; omega
              subst h2
              rw [List.getElem?_append_right (Nat.le_refl _), Nat.sub_self] at e'
              rw [List.getElem?_append_right (by rw [r2.len]; exact Nat.le_refl _), show q.length - G1.length = 0 by rw [r2.len]; exact Nat.sub_self _] at g'
              simp at e' g'
              subst e' g'
              exact ⟨_, hl', dd⟩
        exact h2 (q ++ [l]) H' (.ref l) (pre_app q l) (tu1.trans tu2) rn (.ref (by rw [← r2.len, List.getElem?_append_right (Nat.le_refl _), Nat.sub_self]; rfl))
      · exact co_bad h2
    · exact co_bad h2
  · exact co_bad h2
end
end Mw
namespace Mw
open PySem L2
open PyProof.Rows hiding St
/-- enumerate(v) of what iter begins as o -/
theorem enum_makes {v : Value} {o : Obj} {P : Heap → Prop} (B : Begins v o P) :
    Meets (Builtin.«enumerate.__new__» ⟨[.type "enumerate", v], []⟩) (fun _ R s => P s.heap ∧
      R (.ok (.ret (.ref (s.heap.push o).objs.size))) { s with heap := (s.heap.push o).push { cls := .type "enumerate", data := .fields #[.none, .bool false, .ref s.heap.objs.size, rawInt 0, .none, .none] } }) :=
  .of_wp fun prog w A R s h => by
    obtain ⟨hp, g, d, tk, os⟩ := s
    obtain ⟨hl, h⟩ := h
    have hsub := sub_enumerate
    have q1 : ∀ {A' : Around} {E : Value → Shared → Prop} {Q : Value → Shared → Prop}, Q (.ref hp.objs.size) ⟨(hp.push o), g, d, tk, os⟩ → wpAny (model prog w) A' (pyIter v) Q E ⟨hp, g, d, tk, os⟩ :=
      fun q => B.iter prog w _ _ ⟨hp, g, d, tk, os⟩ _ (B.keeps _ _ hl fun b o' e => e) q
    wp_walk using q1
    refine wpAny_stack_any fun st => wpAny_pure ?_
    split
    · rename_i c _ _ _ _ _
      cases (c == Value.type "enumerate") <;> (wp_walk using q1) <;> exact ⟨_, rfl, h⟩
    · wp_walk using q1
      exact ⟨_, rfl, h⟩
theorem enum_call {prog : Program} {w : World} {A : Around} {E : Value → Shared → Prop} {s : Shared} {v : Value} {o : Obj} {P : Heap → Prop} {Q : Value → Shared → Prop} (B : Begins v o P) (hP : P s.heap)
    (k : IsEnum ((s.heap.push o).push { cls := .type "enumerate", data := .fields #[.none, .bool false, .ref s.heap.objs.size, rawInt 0, .none, .none] }) (s.heap.objs.size + 1) s.heap.objs.size 0 .none →
      Q (.ref (s.heap.objs.size + 1)) { s with heap := (s.heap.push o).push { cls := .type "enumerate", data := .fields #[.none, .bool false, .ref s.heap.objs.size, rawInt 0, .none, .none] } }) :
    wpAny (model prog w) A (call (.type "enumerate") [v]) Q E s := by
  refine callType_new F.called_enumerate (by decide) (F.typeCall_enumerate_1 _) (F.newCall_enumerate_1 _) (fun obj => F.args_object_init_2 obj _) F.entry_enumerate_new (enum_makes B) ⟨hP, ?_⟩
  have sz : (s.heap.push o).objs.size = s.heap.objs.size + 1 := Heap.size_push ..
  show _ ∧ _
  rw [sz]
  have ie : IsEnum ((s.heap.push o).push { cls := .type "enumerate", data := .fields #[.none, .bool false, .ref s.heap.objs.size, rawInt 0, .none, .none] }) (s.heap.objs.size + 1) s.heap.objs.size 0 .none := by
    have g := Heap.get?_push_size (s.heap.push o) (o := { cls := .type "enumerate", data := .fields #[.none, .bool false, .ref s.heap.objs.size, rawInt 0, .none, .none] }) rfl
    rw [sz] at g
    exact g
  exact ⟨⟨_, ie, rfl⟩, k ie⟩
/-- the tuple at a, each item in a new pair -/
def IteT (K : PySem.W.Frag) (a : Addr) : It :=
  ⟨fun i H => ∃ (xs : List V) (x : V), SqT K H a xs ∧ xs[i]? = some x, fun i H v H' => ∃ T x, v = .ref T ∧ H T = none ∧ H' = upd H T (.tup [.int (i : Nat), x]) ∧ ∀ xs, SqT K H a xs → xs[i]? = some x, fun i H => ∃ xs : List V, SqT K H a xs ∧ xs.length = i⟩
theorem tup_ne_iter {h : Heap} {a it : Addr} {i : Nat} {items : Array Value} (ht : h.IsTuple a items) (hi : h.IsTupleIter it a i) : a ≠ it := fun z => by
  obtain ⟨o, ho, _, n, hd⟩ := ht
  obtain ⟨o', ho', _, hd'⟩ := hi
  rw [z, ho'] at ho
  cases ho
  rw [hd'] at hd
  cases hd
theorem tup_ne_enum {h : Heap} {a e it : Addr} {i : Int} {old : Value} {items : Array Value} (ht : h.IsTuple a items) (he : IsEnum h e it i old) : e ≠ a := fun z => by
  obtain ⟨o, ho, _, n, hd⟩ := ht
  have he' := he
  unfold IsEnum at he'
  rw [z, ho] at he'
  cases he'
  cases hd
theorem turn_enumT {P : Program} {w : World} {K : PySem.W.Frag} {elts : List Expr} {kk : Nat} {tpos : Pos} (a e it : Addr) :
    Turn P w K (.Tuple elts kk tpos) (IteT K a) [e, it] e (fun i h => (∃ old, IsEnum h e it ((i : Nat) : Int) old) ∧ h.IsTupleIter it a i ∧ e ≠ it) where
  mem := by simp
  obj := fun i h st b hb => by
    obtain ⟨⟨old, he⟩, ⟨o, ho, hc, hd⟩, _⟩ := st
    rcases List.mem_cons.mp hb with z | z
    · rw [z]; exact ⟨_, he, fun v q => nomatch q⟩
    · rw [List.mem_singleton.mp z]; exact ⟨o, ho, fun v q => by rw [hd] at q; cases q⟩
  keep := fun i h h' st k => by
    obtain ⟨⟨old, he⟩, hi, hne⟩ := st
    exact ⟨⟨old, k e (by simp) _ he⟩, hi.at fun o q => k it (by simp) o q, hne⟩
  item := by
    intro X hP hw hK hc i pins s σ H E I hf st hg
    subst hP hw hK
    obtain ⟨⟨old, he⟩, hit, hne⟩ := st
    obtain ⟨xs, x, hq, hx⟩ := hg
    obtain ⟨its, rv, p, hz⟩ := I.tuple hq
    obtain ⟨u, hu, ru⟩ := rv.get hx
    have ht : s.heap.IsTuple a its.toArray := p
    have hel : e < s.heap.objs.size := Heap.lt_size he
    have hil : it < s.heap.objs.size := by obtain ⟨_, q, _⟩ := hit; exact Heap.lt_size q
    have hai := tup_ne_iter ht hit
    have hea := tup_ne_enum ht he
    have hlt : i < its.toArray.size := by
      have := (List.getElem?_eq_some_iff.mp hu).1
      simpa using this
    refine wpAny_pyNext_enum_itemD (Draws.tuple (show X.A.in1.handled = none from I.ok.hd hc) it a hai its.toArray) he ⟨hit, ht⟩ hlt hne (by simp [hne, hea]) fun x' h' tk hx' ho hit' hT hsz hk => ?_
    have ex : x' = u := by
      have h1 : its.toArray[i]? = some u := by simpa using hu
      exact Option.some.inj (hx'.symm.trans h1)
    subst ex
    refine ⟨_, rfl, wpAny_letOwnedTupleGo_enum (s := { s with heap := h', toks := tk + 1 }) ho fun h'' he' sb => ?_⟩
    have hT2 : h''.get? s.heap.objs.size = some { cls := .type "tuple", data := .seq #[.int i tk, x'] } := (sb.2 _ (Nat.ne_of_gt hel)).trans hT
    have new : ObjOk X.prog X.w (upd H s.heap.objs.size (.tup [.int (i : Nat), x])) h'' s.heap.objs.size (.tup [.int (i : Nat), x]) :=
      ⟨by show 2 ≤ sizeLine; decide, [.int i tk, x'], .cons ⟨_, rfl⟩ (.cons ru .nil), ⟨_, hT2, rfl, _, rfl⟩⟩
    have I1 : Inv X pins σ (upd H s.heap.objs.size (.tup [.int (i : Nat), x])) { s with heap := h'', toks := tk + 1 } :=
      I.turnedNew (ch := [e, it]) (fun b ob hb q => (sb.2 b (fun z => hb (by simp [z]))).trans (hk b ob (fun z => hb (by simp [z])) (fun z => hb (by simp [z])) q)) hf (Nat.le_refl _) new
    refine ⟨.ref s.heap.objs.size, _, I1, rfl, ⟨_, x, rfl, I.hok.fresh (Nat.le_refl _), rfl, fun ys hy => by rw [I.tuple_inj hy hq]; exact hx⟩, ⟨⟨x', ?_⟩, hit'.1.at fun o q => (sb.2 it (Ne.symm hne)).trans q, hne⟩, fun b hb => ?_⟩
    · rw [show ((i + 1 : Nat) : Int) = (i : Int) + 1 by omega]
      exact he'
    · have hb' : b < s.heap.objs.size := by
        rcases List.mem_cons.mp hb with z | z
        · rw [z]; exact hel
        · rw [List.mem_singleton.mp z]; exact hil
      rw [upd_ne (Nat.ne_of_lt hb')]
      exact (hf b hb).1
  done := by
    intro X hP hw hK hc i pins s σ H E I hf st hg
    subst hP hw hK
    obtain ⟨⟨old, he⟩, hit, hne⟩ := st
    obtain ⟨xs, hq, hx⟩ := hg
    obtain ⟨its, rv, p, hz⟩ := I.tuple hq
    have ht : s.heap.IsTuple a its.toArray := p
    obtain ⟨f0, f1, f2, f3, f4, f5⟩ := hf it (by simp)
    have hn : i = its.toArray.size := by have := rv.length; simp; omega
    subst hn
    exact wpAny_pyNext_enum_endD (Draws.tuple (show X.A.in1.handled = none from I.ok.hd hc) it a (tup_ne_iter ht hit) its.toArray) he ⟨hit, ht⟩ fun h' eb => ⟨rfl, I.turned (t' := s.toks) (fun b o hb q => eb b o hb q) f0 f1 f3 f4 f5⟩
  self := fun A i s Q E st h => by
    obtain ⟨⟨_, he⟩, _⟩ := st
    exact wpAny_pyIter_enum he h
def iEnumT (K : PySem.W.Frag) (ta : TA) : TI := fun σ H R => ta σ H fun vs H1 => ∃ a xs, vs = [.ref a] ∧ SqT K H1 a xs ∧ R (IteT K a) H1
theorem pi_enumT {X : Cx} {e : Expr} {ta : TA} {p pos tpos : Pos} {elts : List Expr} {kk : Nat} (hg : Gl X "enumerate") (hm : X.mg "enumerate" = none) (ha : PA X [e] ta) (hs : starEach [e] X.env = [(false, eval e X.env)]) :
    PI X (.Tuple elts kk tpos) (.Call (.Name "enumerate" p) [e] [] pos) (iEnumT X.K ta) := by
  refine ⟨fun pins s σ H R I h => ?_⟩
  refine Call_ (ld_blt I hg hm boot_enumerate (PyProof.Rows.callWith_type1 (thn (ha.run pos pins s σ H _ I h) fun us s1 ⟨vs, H1, I1, r1, q1⟩ => ?_) hs rfl))
  obtain ⟨a, xs, ex, hq, q⟩ := q1
  subst ex
  cases r1 with
  | cons r rr =>
    cases rr
    cases r
    obtain ⟨its, rv, p', hz⟩ := I1.tuple hq
    have ht : s1.heap.IsTuple a its.toArray := p'
    refine enum_call (begins_tuple a its.toArray) ht fun he => wpAny_pyIter_enum he ?_
    have I2 : Inv X pins σ H1 { s1 with heap := (s1.heap.push { cls := .type "tuple_iterator", data := .fields #[.ref a, .int 0 0] }).push { cls := .type "enumerate", data := .fields #[.none, .bool false, .ref s1.heap.objs.size, rawInt 0, .none, .none] } } := I1.kept (t' := s1.toks) fun b o g => Heap.get?_push_of_some _ (Heap.get?_push_of_some _ g)
    refine ⟨s1.heap.objs.size + 1, [s1.heap.objs.size + 1, s1.heap.objs.size], _, _, H1, rfl, I2, turn_enumT a (s1.heap.objs.size + 1) s1.heap.objs.size, ⟨⟨.none, he⟩, ⟨_, Heap.get?_push_of_some _ (Heap.get?_push_size _ rfl), rfl, rfl⟩, Nat.succ_ne_self _⟩, fun b hb => ?_, q⟩
    have hle : s1.heap.objs.size ≤ b := by
      rcases List.mem_cons.mp hb with z | z
      · rw [z]; exact Nat.le_add_right _ _
      · rw [List.mem_singleton.mp z]; exact Nat.le_refl _
    exact I1.fpOk hle (I1.hok.fresh hle)
@[simp] def miEnum (a : ME0) : MI0 := fun e G => (a e G).bind fun x G => match x with
  | .tup ds => .ok ⟨enumD ds, none⟩ G
  | .ref n => (match G[n]? with
    | some (.lst ds) => .ok ⟨enumD ds, some (.enu n)⟩ G
    | _ => .bad)
  | _ => .bad
theorem enumD_get {ds : List D} {i : Nat} {d : D} (h : (enumD ds)[i]? = some d) : ∃ x, ds[i]? = some x ∧ d = .tup [.int (i : Nat), x] := by
  unfold enumD at h
  rw [List.getElem?_map, List.getElem?_zipIdx] at h
  cases hx : ds[i]? with
  | none => rw [hx] at h; cases h
  | some x =>
    rw [hx] at h
    simp at h
    exact ⟨x, rfl, h.symm⟩
theorem enumD_len (ds : List D) : (enumD ds).length = ds.length := by
  unfold enumD
  rw [List.length_map, List.length_zipIdx]
theorem enumD_at {ds : List D} {i : Nat} {x : D} (h : ds[i]? = some x) : (enumD ds)[i]? = some (.tup [.int (i : Nat), x]) := by
  unfold enumD
  rw [List.getElem?_map, List.getElem?_zipIdx, h]
  simp
theorem enumD_inj {as bs : List D} (h : enumD as = enumD bs) : as = bs := by
  have hl : as.length = bs.length := by rw [← enumD_len as, ← enumD_len bs, h]
  apply List.ext_getElem hl
  intro i h1 h2
  have e1 := enumD_at (List.getElem?_eq_getElem h1)
  have e2 := enumD_at (List.getElem?_eq_getElem h2)
  rw [h, e2] at e1
  have := D.tup.inj (Option.some.inj e1)
  exact ((List.cons.inj (List.cons.inj this).2).1).symm
theorem still_enuR {n : Nat} {ds : List D} {G : Gp} (h : (Src.mk (enumD ds) (some (.enu n))).still G = true) : G[n]? = some (.lst ds) := by
  unfold Src.still at h
  dsimp only at h
  split at h
  · rename_i g
    rw [g, enumD_inj (beqs_eq h)]
  · cases h
theorem si_enumT {X : Cx} {W : WX} {a : Expr} {ma : ME0} {p0 pos tpos : Pos} {elts : List Expr} {kk : Nat} (hg : Gl X "enumerate") (hm : X.mg "enumerate" = none) (ha : SE X W a ma) (hs : starEach [a] X.env = [(false, eval a X.env)]) : SI X W (.Tuple elts kk tpos) (.Call (.Name "enumerate" p0) [a] [] pos) (miEnum ma) := by
  refine pi_imp (pi_or (pi_enumT hg hm (sa_cons ha sa_nil hs) hs) (pi_enum hg hm (sa_cons ha sa_nil hs) hs)) fun σ H Q ⟨p, G, e, rl, ev, h⟩ => ?_
  have h' : CoI X.K W σ p H (miEnum ma e G) Q := h
  unfold miEnum at h'
  cases hm : ma e G with
  | bad => rw [hm] at h'; exact h'.elim
  | exc c G1 =>
    rw [hm] at h'
    refine .inl ⟨p, G, e, rl, ev, ?_⟩
    show Co X.K W σ p H (Dens X.K) (maCons ma maNil e G) _
    unfold maCons maNil
    rw [hm]
    exact h'
  | ok x G1 =>
    rw [hm, R.bind_ok] at h'
    have mk : ∀ {P : List V → Hp → Prop}, (∀ q H1 v, p <+: q → Tu H H1 → Rel X.K q G1 H1 → Den X.K q H1 v x → P [v] H1) → tA X.K W (maCons ma maNil) σ H P := fun k => ⟨p, G, e, rl, ev, by
      show Co X.K W σ p H (Dens X.K) (maCons ma maNil e G) _
      unfold maCons maNil
      rw [hm]
      intro q H1 vs pr t r1 dv
      obtain ⟨v, rfl, dv1⟩ := inv1 dv
      exact k q H1 v pr t r1 dv1⟩
    cases x with
    | tup ds =>
      refine .inl (mk fun q H1 v pr t r1 dv1 => ?_)
      obtain ⟨b, ws, rfl, hb, hxs⟩ := inv_tup dv1
      have h2 : CoI X.K W σ q H1 (.ok ⟨enumD ds, none⟩ G1) Q := CoI.later h' pr t
      refine ⟨b, ws, rfl, .inl (.inl hb), h2.here r1 ⟨fun q2 G2 H2 p2 t2 r2 _ => ⟨ws, .inl (.inl (t2 _ _ hb trivial)), ?_⟩, fun i d q2 G2 H2 p2 t2 r2 _ hd => ?_⟩⟩
      · show ws.length = (enumD ds).length
        rw [enumD_len, hxs.length]
      · obtain ⟨x, hx, rfl⟩ := enumD_get hd
        have hb2 : H2 b = some (.tup ws) := t2 _ _ hb trivial
        obtain ⟨w, hw, dw⟩ := (hxs.mono t2 p2).get hx
        refine ⟨⟨ws, w, .inl (.inl hb2), hw⟩, fun y H3 hy => ?_⟩
        obtain ⟨T, z, rfl, hT, rfl, hz⟩ := hy
        have ez : z = w := Option.some.inj ((hz ws (.inl (.inl hb2))).symm.trans hw)
        subst ez
        exact ⟨Tu.new hT, r2.tup hT, .tup upd_same (.cons (.int _) (.cons (dw.mono (Tu.new hT) (List.prefix_refl _)) .nil))⟩
    | ref n =>
      dsimp only at h'
      split at h'
      · rename_i ds g1
        refine .inr (mk fun q H1 v pr t r1 dv1 => ?_)
        obtain ⟨b, rfl, hb⟩ := inv_ref dv1
        obtain ⟨ws, hl, hxs⟩ := r1.lst hb g1
        have h2 : CoI X.K W σ q H1 (.ok ⟨enumD ds, some (.enu n)⟩ G1) Q := CoI.later h' pr t
        refine ⟨b, ws, rfl, .inl (.inl hl), h2.here r1 ⟨fun q2 G2 H2 p2 t2 r2 st => ?_, fun i d q2 G2 H2 p2 t2 r2 st hd => ?_⟩⟩
        · obtain ⟨ws2, hl2, hx2⟩ := r2.lst (pre_get p2 hb) (still_enuR st)
          refine ⟨ws2, .inl (.inl hl2), ?_⟩
          show ws2.length ≤ (enumD ds).length
          rw [enumD_len, hx2.length]
          exact Nat.le_refl _
        · obtain ⟨x, hx, rfl⟩ := enumD_get hd
          obtain ⟨ws2, hl2, hx2⟩ := r2.lst (pre_get p2 hb) (still_enuR st)
          obtain ⟨w, hw, dw⟩ := hx2.get hx
          refine ⟨⟨ws2, w, .inl (.inl hl2), hw⟩, fun y H3 hy => ?_⟩
          obtain ⟨T, z, rfl, hT, rfl, hz⟩ := hy
          have ez : z = w := Option.some.inj ((hz ws2 (.inl (.inl hl2))).symm.trans hw)
          subst ez
          exact ⟨Tu.new hT, r2.tup hT, .tup upd_same (.cons (.int _) (.cons (dw.mono (Tu.new hT) (List.prefix_refl _)) .nil))⟩
      · exact h'.elim
    | _ => exact h'.elim
end Mw
namespace Mw
open PySem L2
open PyProof.Rows hiding St
section
variable {X : Cx} {W : WX} {k : Nat} {f C : Addr} {fd : FuncData} {ps : List Str} {F : FM} {a : Expr} {es : List Expr} {m : MA0} {pos : Pos}
theorem makeS_run {CX : CXT} {sp : Sp} {E : St → XK} {pins : List (Addr × Obj)} {σ : St} {H : Hp} {s : Shared} {Q : VK} {us : List Value} {vs : List V} (M : Mk X.K C f) (Fn : FnOk X.prog X.w X.K X.mg X.base CX k f fd ps sp) (hr : Room (k + 1) X.A) (hb : Binds X.K fd ps []) (hx : PassesAt CX X σ (E σ)) (I : Inv X pins σ H s) (r : Vals vs us)
    (h : ∀ y dx, H y = none → H dx = none → dx ≠ y → sp (.ref y :: vs) (upd (upd H dx (.own y)) y (.ins C dx [])) (fun v H2 => v = .non ∧ Q (.ref y) H2) (E σ)) : wpAny (model X.prog X.w) X.A (call (.ref C) us) (EP X pins σ Q) X.xe s := by
  have n1 : H (s.heap.objs.size + 1) = none := I.hok.fresh (Nat.le_succ _)
  have n2 : H s.heap.objs.size = none := I.hok.fresh (Nat.le_refl _)
  have z := h _ _ n1 n2 (Nat.ne_of_lt (Nat.lt_succ_self _))
  have J := Inv.made (C := C) I
  have rr : Vals (V.ref (s.heap.objs.size + 1) :: vs) (Value.ref (s.heap.objs.size + 1) :: us) := .cons rfl r
  have hl : (Value.ref (s.heap.objs.size + 1) :: us).length = ps.length := rr.length.symm.trans (Fn.len _ _ _ _ z)
  have bd := hb _ (Value.ref (s.heap.objs.size + 1) :: us) J.kIn (by rw [List.append_nil]; exact hl)
  rw [List.append_nil] at bd
  have run := Fn.run _ X.stack _ _ ⟨Value.ref (s.heap.objs.size + 1) :: us, []⟩ _ _ _ _ (hr.make C us []) (J.env0.make C us []) bd rr z
  refine wpAny_call (make_map (f := f) I.kIn M.makes M.init (beq_iff_eq.mp M.fn) (codeAny_mono run fun o s2 q => ?_))
  cases o with
  | error e => exact hx pins _ _ e s2 J q
  | ok fl =>
    cases fl with
    | next => cases q
    | brk => cases q
    | cont => cases q
    | ret u =>
      obtain ⟨v, H3, J3, rv, ev, q3⟩ := J.after q
      cases ev
      exact ⟨rv, V.ref (s.heap.objs.size + 1), H3, J3, rfl, q3⟩
/-- C(..), by the state -/
def tMakeS (C : Addr) (sp : Sp) (E : St → XK) (t : TA) : TE := fun σ H Q => t σ H fun vs H1 => ∀ y dx, H1 y = none → H1 dx = none → dx ≠ y → sp (.ref y :: vs) (upd (upd H1 dx (.own y)) y (.ins C dx [])) (fun v H2 => v = .non ∧ Q (.ref y) H2) (E σ)
theorem pe_makeS {CX : CXT} {sp : Sp} {E : St → XK} {x : Str} {p0 : Pos} {t : TA} (M : Mk X.K C f) (Fn : FnOk X.prog X.w X.K X.mg X.base CX k f fd ps sp) (hr : Room (k + 1) X.A) (hg : Gl X x) (hm : X.mg x = some (.ref C)) (hb : Binds X.K fd ps []) (hx : ∀ σ, PassesAt CX X σ (E σ)) (ha : PA X (a :: es) t) (hdb : (x == ("__debug__" : Str)) = false)
    (he : starEach (a :: es) X.env = (false, eval a X.env) :: starEach es X.env) (hpl : (backTo pos (starEach es X.env)).any (·.1) = false) : PE X (.Call (.Name x p0) (a :: es) [] pos) (tMakeS C sp E t) := by
  refine ⟨fun pins s σ H Q I h => wpAny_Call_Name_kw (ld_glob I hg hm ?_ hdb)⟩
  exact PySem.W.callWith_K (h₀ := X.base) I.ok.mod.kin M.kp (thn (ha.run pos pins s σ H _ I h) fun us s1 ⟨vs, H1, J, r, q⟩ => ⟨J.kIn, makeS_run M Fn hr hb (hx σ) J r q⟩) he hpl
def isNon (d : D) : Bool := match d with
  | .non => true
  | _ => false
@[simp] def mMake (n : Nat) (f : FM) (m : MA0) : ME0 := fun e G => (m e G).bind fun ds G1 => if ds.length + 1 = n then ((f (.ref G1.length :: ds) (G1 ++ [.ins []])).bind fun r G2 => if isNon r = true then .ok (.ref G1.length) G2 else .bad) else .bad
theorem read_make {σ : St} {H : Hp} {Q : VK} (h : tE X.K W (mMake ps.length F m) σ H Q) : tMakeS (He.ga X.K cname) (spM X.K ps.length F) (WE W) (tA X.K W m) σ H Q := by
  obtain ⟨p, G, e, rl, ev, h⟩ := h
  refine ⟨p, G, e, rl, ev, h.bind fun ds G1 q H1 vs pr t r1 dv h1 => ?_⟩
  intro y dx hy hdx hne
  split at h1
  · rename_i hl
    have r2 : Rel X.K q G1 (upd H1 dx (.own y)) := r1.tup hdx
    have hy2 : upd H1 dx (.own y) y = none := by rw [upd_ne (Ne.symm hne)]; exact hy
    have t2 : Tu H1 (upd H1 dx (.own y)) := Tu.new hdx
    have t3 : Tu (upd H1 dx (.own y)) (upd (upd H1 dx (.own y)) y (.ins (He.ga X.K cname) dx [])) := Tu.new hy2
    have r3 : Rel X.K (q ++ [y]) (G1 ++ [.ins []]) (upd (upd H1 dx (.own y)) y (.ins (He.ga X.K cname) dx [])) := r2.new hy2 ⟨dx, [], upd_same, .nil⟩
    have hq : (q ++ [y])[G1.length]? = some y := by rw [← r1.len]; simp
    refine ⟨q ++ [y], G1 ++ [.ins []], .ref G1.length :: ds, r3, .cons (.ref hq) (dv.mono (t2.trans t3) (pre_app q y)), hl, ?_⟩
    have h2 := Co.later h1 (pre_app q y) (t2.trans t3)
    refine co_wx (G := G1) (Co.bind h2 fun d G3 q3 H3 v pr3 t4 r4 dv3 h3 => ?_) fun c d H z => z
    split at h3
    · rename_i hd
      cases d with
      | non =>
        cases dv3
        exact ⟨rfl, h3.here r4 (.ref (by
          obtain ⟨u, hu⟩ := pr3
          rw [← hu, List.getElem?_append_left (by rw [List.length_append, r1.len]; simp), hq]))⟩
      | _ => cases hd
    · exact co_bad h3
  · exact co_bad h1
theorem se_make {x : Str} {p0 : Pos} (tk : Takes X W) (M : Mk X.K (He.ga X.K cname) f) (Fn : FnM X k f fd ps F) (hr : Room (k + 1) X.A) (hg : Gl X x) (hm : X.mg x = some (.ref (He.ga X.K cname))) (hb : Binds X.K fd ps []) (ha : SA X W (a :: es) m) (hdb : (x == ("__debug__" : Str)) = false)
    (he : starEach (a :: es) X.env = (false, eval a X.env) :: starEach es X.env) (hpl : (backTo pos (starEach es X.env)).any (·.1) = false) : SE X W (.Call (.Name x p0) (a :: es) [] pos) (mMake ps.length F m) :=
  pe_imp (pe_makeS (E := WE W) M Fn hr hg hm hb (fun σ => passAt tk σ) ha hdb he hpl) fun _ _ _ h => read_make h
end
end Mw
namespace Mw
open PySem L2
open PyProof.Rows hiding St
section
variable {X : Cx} {W : WX} {a c : Expr} {ta tc : TE} {ma mc : ME0} {pos p2 : Pos}
section
variable {P : Program} {w : World} {A : Around} {E : Value → Shared → Prop} {s : Shared}
theorem rev_places (n : Nat) : Builtin.Slice.sliceAdjust none none (-1) (n : Int) = ((n : Int) - 1, -1) ∧ Builtin.Slice.slicePlaces ((n : Int) - 1) (-1) (-1) = n := by
  refine ⟨rfl, ?_⟩
  unfold Builtin.Slice.slicePlaces
  rw [if_neg (by decide)]
  split
  · rw [show (- -1 : Int) = 1 from rfl, Int.ediv_one]
    omega
  · show 0 = n
    omega
theorem rev_applied {sl : Addr} {t : Tok} {n : Nat} {Q : Int × Int × Nat → Shared → Prop} (hs : s.heap.IsSliceOf sl .none .none (.int (-1) t)) (q : Q ((n : Int) - 1, -1, n) s) : wpAny (model P w) A (Builtin.Slice.sliceApplied (.ref sl) (pure (n : Int))) Q E s := by
  obtain ⟨o, ho, hc, hd⟩ := id hs
  unfold Builtin.Slice.sliceApplied Builtin.Slice.sliceFields
  refine wpAny_bind (wpAny_bind (wpAny_field ho hd (x := Value.none) rfl (wpAny_bind (wpAny_field ho hd (x := Value.none) rfl (wpAny_bind (wpAny_field ho hd (x := Value.int (-1) t) rfl (wpAny_pure ?_)))))))
  refine wpAny_bind (HT.slicePart_ (.int (-1) t) ?_)
  show wpAny _ _ (if ((-1 : Int) == 0) = true then _ else _) _ _ s
  rw [if_neg (by decide)]
  refine wpAny_bind (HT.slicePart_ .none (wpAny_bind (HT.slicePart_ .none (wpAny_bind (wpAny_pure ?_)))))
  show wpAny _ _ (match Builtin.Slice.sliceAdjust none none (-1) (n : Int) with | (lo, hi) => pure (lo, (-1 : Int), Builtin.Slice.slicePlaces lo hi (-1))) _ _ s
  rw [(rev_places n).1]
  show wpAny _ _ (pure ((n : Int) - 1, (-1 : Int), Builtin.Slice.slicePlaces ((n : Int) - 1) (-1) (-1))) _ _ s
  rw [(rev_places n).2]
  exact wpAny_pure q
theorem fm_same {α β : Type} {f g : α → Option β} : ∀ {l : List α}, (∀ m ∈ l, f m = g m) → l.filterMap f = l.filterMap g
  | [], _ => rfl
  | m :: l, h => by rw [List.filterMap_cons, List.filterMap_cons, h m List.mem_cons_self, fm_same fun z hz => h z (List.mem_cons_of_mem _ hz)]
theorem rev_pick (xs : Array Value) : ((List.range xs.size).filterMap fun (m : Nat) => xs[(((xs.size : Int) - 1) + (m : Int) * (-1)).toNat]?).toArray = xs.toList.reverse.toArray := by
  have e : ((List.range xs.size).filterMap fun (m : Nat) => xs[(((xs.size : Int) - 1) + (m : Int) * (-1)).toNat]?) = ((List.range xs.size).map fun k => xs.size - 1 - k).filterMap (xs[·]?) := by
    rw [List.filterMap_map]
    refine fm_same fun m hm => ?_
    have hm := List.mem_range.mp hm
    show xs[(((xs.size : Int) - 1) + (m : Int) * (-1)).toNat]? = xs[xs.size - 1 - m]?
    congr 1
    omega
  rw [e, PySem.W.krv_range, List.filterMap_reverse, PySem.W.krv_all]
theorem item_tup_rev {b sl : Addr} {xs : Array Value} {t : Tok} {Q : Value → Shared → Prop} (ht : IsTup s.heap b xs) (hs : s.heap.IsSliceOf sl .none .none (.int (-1) t)) (hz : xs.size ≤ sizeLine)
    (q : Q (.ref s.heap.objs.size) { s with heap := s.heap.push { cls := .type "tuple", data := .seq xs.toList.reverse.toArray } }) : wpAny (model P w) A (getItem (.ref b) (.ref sl)) Q E s := by
  have ok : sizeOk (.seq xs.toList.reverse.toArray) := by
    show xs.toList.reverse.toArray.size ≤ sizeLine
    rw [List.size_toArray, List.length_reverse, Array.length_toList]
    exact hz
  obtain ⟨o, ho, hc, hd⟩ := id hs
  have ty : s.TypeIs (.ref sl) "slice" := ⟨o, ho, hc⟩
  unfold getItem; try with_reducible refine wpAny_holding ?_
  first | refine wpAny_bind (wpAny_pure (wpAny_bind (wpAny_sequenceKey ht.typeIs (by decide) ?_))) | refine wpAny_bind (wpAny_sequenceKey ht.typeIs (by decide) ?_)
  refine wpAny_bind (wpAny_callSpecial?_slot (name := Str.ofString "__getitem__") ht.typeIs PyProof.Rows.slot_tuple_getitem (wpAny_call_entry PyProof.Rows.slot_tuple_getitem ht.typeIs entry_tuple_getitem ?_ (args_tuple_getitem _ _)))
  refine wpAny_bind (m := Builtin.Tuple.tupleItemsOf (.ref b)) (tupleItemsOf_ ht (wpAny_bind (wpAny_typeOf ty ?_)))
  rw [if_pos (by decide)]
  refine wpAny_bind (rev_applied (n := xs.size) hs ?_)
  have no : ¬ ((((xs.size : Int) - 1) == 0 && (-1 : Int) == 1 && xs.size == xs.size) = true) := by
    rw [show ((-1 : Int) == 1) = false from rfl, Bool.and_false, Bool.false_and]
    exact Bool.false_ne_true
  show wpAny _ _ (if (((xs.size : Int) - 1) == 0 && (-1 : Int) == 1 && xs.size == xs.size) = true then _ else _) _ _ s
  rw [if_neg no, rev_pick]
  first
    | exact wpAny_bind (m := Builtin.Tuple.tupleExact _) (wpAny_newObj_type (wpAny_pure ⟨_, rfl, wpAny_pure q⟩) ok)
    | exact wpAny_bind (m := Builtin.Tuple.tupleExact _) (wpAny_newObj_type (wpAny_bind (wpAny_pure (wpAny_pure ⟨_, rfl, wpAny_pure q⟩))) ok)
    | exact wpAny_bind (wpAny_bind (m := Builtin.Tuple.tupleExact _) (wpAny_newObj_type (wpAny_pure (wpAny_pure ⟨_, rfl, wpAny_pure q⟩)) ok))
    | exact wpAny_bind (wpAny_bind (m := Builtin.Tuple.tupleExact _) (wpAny_newObj_type (wpAny_pure ⟨_, rfl, wpAny_pure q⟩) ok))
end
def tRev (K : PySem.W.Frag) (ta : TE) (tc : TO) : TE := fun σ H Q => ta σ H fun x H1 => tc σ H1 fun k H2 => k = some (-1) ∧ ((∃ l xs, x = .ref l ∧ SqL K H2 l xs ∧ ∀ p, H2 p = none → Q (.ref p) (upd H2 p (.lst xs.reverse))) ∨ ∃ l xs, x = .ref l ∧ SqT K H2 l xs ∧ ∀ p, H2 p = none → Q (.ref p) (upd H2 p (.tup xs.reverse)))
theorem pe_rev (ha : PE X a ta) {tc : TO} (hc : PO X (some c) tc) : PE X (.Subscript a (.Slice none none (some c) p2) pos) (tRev X.K ta tc) := by
  refine ⟨fun pins s σ H Q I h => Subscript_ (thn (ha.run pins s σ H _ I h) fun v s1 ⟨x, H1, I1, r1, q1⟩ => ?_)⟩
  refine wpAny_Slice ?_
  rw [evalPart_none]
  refine wpAny_pure (wpAny_pure (thn (hc.run pins s1 σ H1 _ I1 q1) fun vk s3 ⟨k, H3, I3, pk, hk, z⟩ => ?_))
  subst hk
  have J : Inv X pins σ H3 { s3 with heap := s3.heap.push { cls := .type "slice", data := .fields #[.none, .none, vk] } } := I3.kept (t' := s3.toks) fun b ob g => Heap.get?_push_of_some _ g
  rcases z with ⟨l, xs, hx, hl, q⟩ | ⟨l, xs, hx, hl, q⟩
  · subst hx
    cases r1
    obtain ⟨its, r, ht, hz⟩ := J.list hl
    have hlen := r.length
    refine tail_any (ops := [.ref l, .ref s3.heap.objs.size]) ht.isList.typeIs slot_list_getitem.lookup (wpAny_getItem_list_slice ht.isList (Heap.IsSliceOf.new ..) .none .none pk (by simp) ?_ (by rw [List.size_toArray] <;> omega)) (by with_unfolding_all rfl)
    rw [PySem.W.krv_pick]
    refine ⟨V.ref _, _, J.laid (t' := s3.toks) (o := .lst xs.reverse) (fun b ob g => Heap.get?_push_of_some _ g) (Nat.le_refl _) ?_, rfl, q _ (J.hok.fresh (Nat.le_refl _))⟩
    exact ⟨by rw [List.length_reverse]; exact hz, its.reverse, 0, r.reverse, Heap.get?_push_size _ rfl⟩
  · subst hx
    cases r1
    obtain ⟨its, r, ht, hz⟩ := J.tuple hl
    have hlen := r.length
    cases pk with
    | int _ t =>
      refine tail_any (ops := [.ref l, .ref s3.heap.objs.size]) ht.typeIs PyProof.Rows.slot_tuple_getitem.lookup (item_tup_rev ht (Heap.IsSliceOf.new ..) (by rw [List.size_toArray, ← hlen]; exact hz) ?_) (by with_unfolding_all rfl)
      refine ⟨V.ref _, _, J.laid (t' := s3.toks) (o := .tup xs.reverse) (fun b ob g => Heap.get?_push_of_some _ g) (Nat.le_refl _) ?_, rfl, q _ (J.hok.fresh (Nat.le_refl _))⟩
      exact ⟨by rw [List.length_reverse]; exact hz, its.reverse, r.reverse, IsTup.new _ _⟩
def dRev (x k : D) (G : Gp) : R D := match x, k with
  | .ref n, .int (-1) => (match G[n]? with
    | some (.lst ds) => .ok (.ref G.length) (G ++ [.lst ds.reverse])
    | _ => .bad)
  | .tup ds, .int (-1) => .ok (.tup ds.reverse) G
  | _, _ => .bad
@[simp] def mRev (a c : ME0) : ME0 := fun e G => (a e G).bind fun x G => (c e G).bind fun k G => dRev x k G
theorem se_rev (ha : SE X W a ma) (hc : SE X W c mc) : SE X W (.Subscript a (.Slice none none (some c) p2) pos) (mRev ma mc) := by
  refine pe_imp (pe_rev ha (po_some hc)) fun σ H Q ⟨p, G, e, rl, ev, h⟩ => ?_
  refine ⟨p, G, e, rl, ev, h.bind fun x G1 q H1 v pr t r1 dv h1 => ?_⟩
  refine ⟨q, G1, e, r1, ev.mono t pr, h1.bind fun k G2 q2 H2 w pr2 t2 r2 dk h2 => ?_⟩
  have dv2 := dv.mono t2 pr2
  unfold dRev at h2
  split at h2
  · rename_i n
    cases dk
    split at h2
    · rename_i ds g
      obtain ⟨b, rfl, hb⟩ := inv_ref dv2
      obtain ⟨vs, hv, hd⟩ := r2.lst hb g
      exact ⟨-1, rfl, rfl, .inl ⟨b, vs, rfl, .inl (.inl hv), fun y hy => co_new r2 hy hd.reverse h2⟩⟩
    · exact co_bad h2
  · rename_i ds
    cases dk
    obtain ⟨b, vs, rfl, hb, hxs⟩ := inv_tup dv2
    exact ⟨-1, rfl, rfl, .inr ⟨b, vs, rfl, .inl (.inl hb), fun y hy => co_tup r2 hy hxs.reverse h2⟩⟩
  · exact co_bad h2
end
end Mw
namespace Mw
open PySem L2 PySem.W
open PyProof.Rows hiding St
def rBest (K : PySem.W.Frag) (best : PyData → List PyData → PyData) : List V → Hp → VK → Prop := fun vs H Q => ∃ a ys z zs, vs = [.ref a] ∧ SqL K H a ys ∧ DpAll K H ys (z :: zs) ∧ AlikeAll (z :: zs) ∧ PyData.depthAll (z :: zs) ≤ 20 ∧ PyData.canLayAll0 (z :: zs) = true ∧ ∀ (i : Nat) (y : V), ys[i]? = some y → (z :: zs)[i]? = some (best z zs) → Q y H
theorem canAll {zs : List PyData} (h : PyData.canLayAll0 zs = true) : ∀ z ∈ zs, z.canLay0 = true := by
  induction zs with
  | nil => intro z hz; cases hz
  | cons a zs ih =>
    rw [PyData.canLayAll0] at h
    obtain ⟨h1, h2⟩ := Bool.and_eq_true_iff.mp h
    intro z hz
    rcases List.mem_cons.mp hz with q | q
    · rw [q]; exact h1
    · exact ih h2 z q
section
variable {X : Cx}
theorem vals_at {ys : List V} {us : List Value} (h : Vals ys us) {i : Nat} {v : Value} (e : us[i]? = some v) : ∃ y, ys[i]? = some y ∧ RelV y v := by
  induction h generalizing i with
  | nil => simp at e
  | cons h1 h2 ih =>
    cases i with
    | zero => simp at e; subst e; exact ⟨_, rfl, h1⟩
    | succ i =>
      obtain ⟨y, q1, q2⟩ := ih (i := i) (by simpa using e)
      exact ⟨y, by simpa using q1, q2⟩
theorem call_maxL (hc : X.calm = true) (hu : X.A.units + 65 < cLine) : CallR X (.builtin "max") (rBest X.K maxD) := by
  intro pins s σ H vs us Q I r h
  obtain ⟨a, ys, z, zs, rfl, hs, hd, ha, hde, hcl, q⟩ := h
  obtain ⟨its, rv, hl, _⟩ := I.list hs
  rw [Vals.ref1 r]
  obtain ⟨as, hr⟩ := Dp.readsAll I _ _ _ hd rv
  refine max_list_data (I.ok.hd hc) hl.isList (by simpa using hr) ha (by omega) fun i v h' tk bs hv hrd hk => ?_
  have hv' : its[i]? = some v := by simpa using hv
  obtain ⟨y, hy, rel⟩ := vals_at rv hv'
  obtain ⟨bs2, r2, hi, hm, _⟩ := readsAll_atA (vs := its.toArray) (by simpa using hr) i v hv
  refine ⟨y, H, I.kept hk, rel, q i y hy ?_⟩
  have e := SeqAt.Reads.unique _ _ v _ _ (canAll hcl _ hm) (reads_keeps hk r2) hrd
  rw [List.getElem?_eq_getElem hi, ← e, List.getD_eq_getElem?_getD, List.getElem?_eq_getElem hi]
  rfl
theorem call_minL (hc : X.calm = true) (hu : X.A.units + 65 < cLine) : CallR X (.builtin "min") (rBest X.K minD) := by
  intro pins s σ H vs us Q I r h
  obtain ⟨a, ys, z, zs, rfl, hs, hd, ha, hde, hcl, q⟩ := h
  obtain ⟨its, rv, hl, _⟩ := I.list hs
  rw [Vals.ref1 r]
  obtain ⟨as, hr⟩ := Dp.readsAll I _ _ _ hd rv
  refine min_list_data (I.ok.hd hc) hl.isList (by simpa using hr) ha (by omega) fun i v h' tk bs hv hrd hk => ?_
  have hv' : its[i]? = some v := by simpa using hv
  obtain ⟨y, hy, rel⟩ := vals_at rv hv'
  obtain ⟨bs2, r2, hi, hm, _⟩ := readsAll_atA (vs := its.toArray) (by simpa using hr) i v hv
  refine ⟨y, H, I.kept hk, rel, q i y hy ?_⟩
  have e := SeqAt.Reads.unique _ _ v _ _ (canAll hcl _ hm) (reads_keeps hk r2) hrd
  rw [List.getElem?_eq_getElem hi, ← e, List.getD_eq_getElem?_getD, List.getElem?_eq_getElem hi]
  rfl
end
def encPr (x : Int × Int) : D := .tup [.int x.1, .int x.2]
def encTr (x : (Int × Int) × Int) : D := .tup [encPr x.1, .int x.2]
def pr? : D → Option (Int × Int)
  | .tup [.int a, .int b] => some (a, b)
  | _ => none
def tr? : D → Option ((Int × Int) × Int)
  | .tup [x, .int b] => (pr? x).map fun a => (a, b)
  | _ => none
theorem pr_inv {d : D} {x : Int × Int} (h : pr? d = some x) : d = encPr x := by
  unfold pr? at h
  split at h
  · cases h; rfl
  · cases h
theorem tr_inv {d : D} {x : (Int × Int) × Int} (h : tr? d = some x) : d = encTr x := by
  unfold tr? at h
  split at h
  · rename_i y b
    cases hy : pr? y with
    | none => rw [hy] at h; cases h
    | some a =>
      rw [hy] at h
      cases h
      rw [pr_inv hy]
      rfl
  · cases h
theorem mapM_inv {α : Type} {f : D → Option α} {enc : α → D} (hf : ∀ d x, f d = some x → d = enc x) : ∀ {ds : List D} {xs : List α}, ds.mapM f = some xs → ds = xs.map enc
  | [], xs, h => by
    simp at h
    subst h
    rfl
  | d :: ds, xs, h => by
    rw [List.mapM_cons] at h
    cases h1 : f d with
    | none => rw [h1] at h; cases h
    | some x =>
      rw [h1] at h
      cases h2 : ds.mapM f with
      | none => rw [h2] at h; cases h
      | some ys =>
        rw [h2] at h
        have : x :: ys = xs := Option.some.inj h
        subst this
        rw [List.map_cons, ← hf d x h1, ← mapM_inv hf h2]
theorem mapM_enc {α β : Type} {f : D → Option β} {enc : α → D} {g : α → β} (hf : ∀ x, f (enc x) = some (g x)) : ∀ xs : List α, (xs.map enc).mapM f = some (xs.map g)
  | [] => rfl
  | x :: xs => by
    rw [List.map_cons, List.mapM_cons, hf, mapM_enc hf xs]
    rfl
/-- the greatest of a list: ints, pairs, pairs with a number -/
def bestL (bi : Int → List Int → Int) (bp : Int × Int → List (Int × Int) → Int × Int) (bt : (Int × Int) × Int → List ((Int × Int) × Int) → (Int × Int) × Int) (ds : List D) (G : Gp) : R D :=
  match ints? ds with
  | some (x :: xs) => .ok (.int (bi x xs)) G
  | _ => (match ds.mapM pr? with
    | some (x :: xs) => .ok (encPr (bp x xs)) G
    | _ => (match ds.mapM tr? with
      | some (x :: xs) => .ok (encTr (bt x xs)) G
      | _ => .bad))
def best1 (bi : Int → List Int → Int) (bp : Int × Int → List (Int × Int) → Int × Int) (bt : (Int × Int) × Int → List ((Int × Int) × Int) → (Int × Int) × Int) : FM
  | [.ref n], G => (match G[n]? with
    | some (.lst ds) => bestL bi bp bt ds G
    | _ => .bad)
  | _, _ => .bad
theorem toD_inj {α : Type} [DecidableEq α] [Datum α] {a b : α} (h : Datum.toD a = Datum.toD b) : a = b := by
  have e := Datum.eqv a a
  rw [show Datum.toD a = Datum.toD b from h] at e
  have e2 := Datum.eqv a b
  rw [h] at e2
  have e3 := Datum.eqv b b
  rw [e3] at e2
  simpa using e2.symm
theorem cb_gen {K : PySem.W.Frag} {α : Type} [DecidableEq α] [DatumOrd α] {enc : α → D} (hpy : ∀ (G : Gp) (x : α), py G 20 (enc x) = some (Datum.toD x)) {best : PyData → List PyData → PyData} {bo : α → List α → α} (hb : ∀ x xs, best (Datum.toD x) (xs.map Datum.toD) = Datum.toD (bo x xs))
    {W : WX} {σ : St} {p : List Addr} {G : Gp} {H : Hp} {v : V} {n : Nat} {Q : VK} {x : α} {xs : List α} (r : Rel K p G H) (hd : Den K p H v (.ref n)) (hg : G[n]? = some (.lst ((x :: xs).map enc))) (h : Co K W σ p H (Den K) (.ok (enc (bo x xs)) G) Q) : rBest K best [v] H Q := by
  obtain ⟨a, rfl, ha⟩ := inv_ref hd
  obtain ⟨ys, h1, h2⟩ := r.ob n a _ ha hg
  obtain ⟨q1, q2, q3⟩ := py_all r 20 _ ys _ h2 (mapM_enc (hpy G) (x :: xs))
  refine ⟨a, ys, Datum.toD x, xs.map Datum.toD, rfl, .inl (.inl h1), q1, alikeAll_datum (x :: xs), q3, q2, fun i y hy hz => ?_⟩
  obtain ⟨d, e1, e2⟩ := h2.getV hy
  rw [List.getElem?_map] at e1
  rw [← List.map_cons, List.getElem?_map, hb] at hz
  cases hx : (x :: xs)[i]? with
  | none => rw [hx] at e1; cases e1
  | some z =>
    rw [hx] at e1 hz
    cases e1
    have := toD_inj (Option.some.inj hz)
    rw [this] at e2
    exact h.here r e2
theorem ints_inv' : ∀ {ds : List D} {ns : List Int}, ints? ds = some ns → ds = ns.map D.int
  | [], ns, h => by
    rw [ints?] at h
    cases h
    rfl
  | d :: ds, ns, h => by
    cases d <;> rw [ints?] at h <;> first | (cases h; done) | skip
    rename_i i
    cases h2 : ints? ds with
    | none => rw [h2] at h; cases h
    | some ms =>
      rw [h2] at h
      cases h
      rw [List.map_cons, ← ints_inv' h2]
theorem cb_best1 {K : PySem.W.Frag} {best : PyData → List PyData → PyData} {bi : Int → List Int → Int} {bp : Int × Int → List (Int × Int) → Int × Int} {bt : (Int × Int) × Int → List ((Int × Int) × Int) → (Int × Int) × Int}
    (h1 : ∀ x xs, best (Datum.toD x) (xs.map Datum.toD) = Datum.toD (bi x xs)) (h2 : ∀ x xs, best (Datum.toD x) (xs.map Datum.toD) = Datum.toD (bp x xs)) (h3 : ∀ x xs, best (Datum.toD x) (xs.map Datum.toD) = Datum.toD (bt x xs)) : CbM K (rBest K best) (best1 bi bp bt) := by
  intro W σ p G H vs ds Q r hd h
  unfold best1 at h
  split at h
  · rename_i n
    obtain ⟨v, rfl, hv⟩ := inv1 hd
    split at h
    · rename_i es hg
      unfold bestL at h
      split at h
      · rename_i x xs hx
        rw [ints_inv' hx] at hg
        exact cb_gen (enc := D.int) (fun G x => rfl) h1 r hv hg h
      · split at h
        · rename_i x xs hx
          rw [mapM_inv (fun _ _ => pr_inv) hx] at hg
          exact cb_gen (enc := encPr) (fun G x => rfl) h2 r hv hg h
        · split at h
          · rename_i x xs hx
            rw [mapM_inv (fun _ _ => tr_inv) hx] at hg
            exact cb_gen (enc := encTr) (fun G x => rfl) h3 r hv hg h
          · exact co_bad h
    · exact co_bad h
  · exact co_bad h
def fMaxL : FM := best1 maxOf maxOf maxOf
def fMinL : FM := best1 minOf minOf minOf
theorem cb_maxL {K : PySem.W.Frag} : CbM K (rBest K maxD) fMaxL := cb_best1 (fun x xs => maxD_map x xs) (fun x xs => maxD_map x xs) (fun x xs => maxD_map x xs)
theorem cb_minL {K : PySem.W.Frag} : CbM K (rBest K minD) fMinL := cb_best1 (fun x xs => minD_map x xs) (fun x xs => minD_map x xs) (fun x xs => minD_map x xs)
/-- one of two readings -/
def orF (f g : FM) : FM := fun ds G => match f ds G with
  | .bad => g ds G
  | r => r
theorem cb_or {K : PySem.W.Frag} {r1 r2 : List V → Hp → VK → Prop} {f g : FM} (h1 : CbM K r1 f) (h2 : CbM K r2 g) : CbM K (fun vs H Q => r1 vs H Q ∨ r2 vs H Q) (orF f g) := by
  intro W σ p G H vs ds Q r hd h
  unfold orF at h
  cases hf : f ds G with
  | bad => rw [hf] at h; exact .inr (h2 W σ p G H vs ds Q r hd h)
  | ok d G1 => rw [hf] at h; exact .inl (h1 W σ p G H vs ds Q r hd (by rw [hf]; exact h))
  | exc c G1 => rw [hf] at h; exact .inl (h1 W σ p G H vs ds Q r hd (by rw [hf]; exact h))
def fSum : FM
  | [.ref n], G => (match G[n]? with
    | some (.lst ds) => (match ints? ds with
      | some ns => .ok (.int ns.sum) G
      | none => .bad)
    | _ => .bad)
  | _, _ => .bad
theorem dens_intsI {K : PySem.W.Frag} {p : List Addr} {H : Hp} : ∀ {ns : List Int} {vs : List V}, Dens K p H vs (ns.map D.int) → vs = ns.map V.int
  | [], _, h => by cases h; rfl
  | n :: ns, _, h => by
    cases h with
    | cons h1 h2 =>
      cases inv_int h1
      rw [dens_intsI h2]
      rfl
theorem cb_sum {K : PySem.W.Frag} : CbM K (rSum K) fSum := by
  intro W σ p G H vs ds Q r hd h
  unfold fSum at h
  split at h
  · rename_i n
    obtain ⟨v, rfl, hv⟩ := inv1 hd
    split at h
    · rename_i es hg
      split at h
      · rename_i ns hx
        rw [ints_inv' hx] at hg
        obtain ⟨a, rfl, ha⟩ := inv_ref hv
        obtain ⟨ys, h1, h2⟩ := r.ob n a _ ha hg
        rw [dens_intsI h2] at h1
        exact ⟨a, ns, rfl, .inl (.inl h1), h.here r (.int _)⟩
      · exact co_bad h
    · exact co_bad h
  · exact co_bad h
end Mw
namespace Mw
open PySem L2
open PyProof.Rows hiding St
def dRepL : D → D → Gp → R D
  | .ref n, .int k, G => (match G[n]? with
    | some (.lst ds) => if 0 ≤ k ∧ k ≤ 1000 ∧ ds.length ≤ 50 then .ok (.ref G.length) (G ++ [.lst (List.replicate k.toNat ds).flatten]) else .bad
    | _ => .bad)
  | _, _, _ => .bad
theorem dens_rep {K : PySem.W.Frag} {p : List Addr} {H : Hp} {vs : List V} {ds : List D} (h : Dens K p H vs ds) : ∀ n, Dens K p H (List.replicate n vs).flatten (List.replicate n ds).flatten := fun n => by
  induction n with
  | zero => exact .nil
  | succ n ih =>
    rw [List.replicate_succ, List.replicate_succ, List.flatten_cons, List.flatten_cons]
    exact h.append ih
theorem co_newO {K : PySem.W.Frag} {W : WX} {σ : St} {p : List Addr} {H : Hp} {G : Gp} {o : O} {ho : HO} {Q : VK} {b : Addr} (r : Rel K p G H) (h : Co K W σ p H (Den K) (.ok (.ref G.length) (G ++ [o])) Q) (hb : H b = none) (ob : ObR K (p ++ [b]) (upd H b ho) b o) : Q (.ref b) (upd H b ho) :=
  h (p ++ [b]) _ (.ref b) (pre_app p b) (Tu.new hb) (r.new hb ob) (.ref (by rw [← r.len]; simp))
theorem om_rep {K : PySem.W.Frag} : OpM K rRep dRepL := by
  intro W σ p G H v u x y Q r hv hu h
  unfold dRepL at h
  split at h
  · rename_i n k
    split at h
    · rename_i ds g
      split at h
      · rename_i hc
        obtain ⟨a, rfl, ha⟩ := inv_ref hv
        cases inv_int hu
        obtain ⟨vs, hl, hxs⟩ := r.lst ha g
        refine ⟨a, k, vs, rfl, rfl, hl, by omega, by omega, ?_, fun b hb => ?_⟩
        · have e := hxs.length
          have : vs.length * k.toNat ≤ 50 * 1000 := Nat.mul_le_mul (by omega) (by omega)
          rw [sizeLine_eq]
          omega
        · exact co_newO r h hb ⟨_, upd_same, (dens_rep hxs _).mono (Tu.new hb) (pre_app p b)⟩
      · exact co_bad h
    · exact co_bad h
  · exact co_bad h
def isD0 (G : Gp) (n : Nat) : Bool := match G[n]? with
  | some (.dct kvs) => kvs.isEmpty
  | _ => false
section
variable {X : Cx} {W : WX} {a b o : Expr} {es : List Expr} {ma mb mo : ME0} {m : MA0} {pos : Pos}
theorem se_rep (ha : SE X W a ma) (hb : SE X W b mb) : SE X W (.BinOp a .Mult b pos) (mBin dRepL ma mb) := se_bin op_rep om_rep ha hb
structure TabF (K : PySem.W.Frag) (w : World) (mg : Str → Option Value) (x : Str) (kvs : List (Str × Int)) : Prop where
  ex : ∃ (d : Addr) (es : Array DictEntry) (n : Nat), mg x = some (.ref d) ∧ KDict K w d es n ∧ ∀ z : Str, (∃ (i : Int) (t : Tok), kvs.lookup z = some i ∧ PySem.W.nsIn K d z = some (some (.int i t))) ∨ (kvs.lookup z = none ∧ PySem.W.nsIn K d z = some none)
@[simp] def mTabIn (kvs : List (Str × Int)) (a : ME0) : En → Gp → R Bool := fun e G => (a e G).bind fun x G => match x with
  | .str z => .ok (kvs.lookup z).isSome G
  | _ => .bad
@[simp] def mTabAt (kvs : List (Str × Int)) (a : ME0) : ME0 := fun e G => (a e G).bind fun x G => match x with
  | .str z => (match kvs.lookup z with
    | some i => .ok (.int i) G
    | none => .bad)
  | _ => .bad
theorem tab_read {kvs : List (Str × Int)} {d : Addr} {K : PySem.W.Frag} {σ : St} {H : Hp} {Q : Bool → Hp → Prop} (hz : ∀ z : Str, (∃ (i : Int) (t : Tok), kvs.lookup z = some i ∧ PySem.W.nsIn K d z = some (some (.int i t))) ∨ (kvs.lookup z = none ∧ PySem.W.nsIn K d z = some none))
    (h : ∃ p G e, Rel K p G H ∧ Envs K p H σ e ∧ Co K W σ p H (fun _ _ (b c : Bool) => b = c) (mTabIn kvs ma e G) Q) :
    tE K W ma σ H (fun x H1 => ∃ (z : Str) (r : Option Value), x = .str z ∧ V.ref d = .ref d ∧ PySem.W.nsIn K d z = some r ∧ Q r.isSome H1) := by
  obtain ⟨p, G, e, rl, ev, h⟩ := h
  refine ⟨p, G, e, rl, ev, Co.bind (r := ma e G) h fun x G1 q H1 v pr t r1 dv h1 => ?_⟩
  cases x with
  | str z =>
    cases inv_str dv
    rcases hz z with ⟨i, t', e1, e2⟩ | ⟨e1, e2⟩
    · refine ⟨z, _, rfl, rfl, e2, ?_⟩
      dsimp only at h1
      rw [e1] at h1
      exact h1.here r1 rfl
    · refine ⟨z, _, rfl, rfl, e2, ?_⟩
      dsimp only at h1
      rw [e1] at h1
      exact h1.here r1 rfl
  | _ => exact co_bad h1
theorem se_tabIn {x : Str} {kvs : List (Str × Int)} {p0 : Pos} (hg : Gl X x) (hm : TabF X.K X.w X.mg x kvs) (ha : SE X W a ma) (hd : (x == ("__debug__" : Str)) = false) : SE X W (.Compare a [.In] [.Name x p0] pos) (mOfB (mTabIn kvs ma)) := by
  obtain ⟨d, es, n, h1, h2, h3⟩ := hm.ex
  refine pe_imp (pe_cmpR (op_in_kd h2) ha (pe_glob (v := .ref d) hg h1 rfl hd) rfl) fun σ H Q ⟨p, G, e, rl, ev, h⟩ => ?_
  exact tab_read (Q := fun b H => Q (.bl b) H) h3 ⟨p, G, e, rl, ev, by
    refine Co.bind (r := mTabIn kvs ma e G) h fun b G1 q H1 v pr t r1 dv h1 => ?_
    subst dv
    exact h1.here r1 (.bl _)⟩
theorem st_tabIn {x : Str} {kvs : List (Str × Int)} {p0 : Pos} (hg : Gl X x) (hm : TabF X.K X.w X.mg x kvs) (ha : SE X W a ma) (hd : (x == ("__debug__" : Str)) = false) : ST X W (.Compare a [.In] [.Name x p0] pos) (mTabIn kvs ma) := by
  obtain ⟨d, es, n, h1, h2, h3⟩ := hm.ex
  refine pt_imp (pt_cmpR (op_in_kd h2) ha (pe_glob (v := .ref d) hg h1 rfl hd) rfl) fun σ H Q ⟨p, G, e, rl, ev, h⟩ => ?_
  have := tab_read (Q := Q) h3 ⟨p, G, e, rl, ev, h⟩
  obtain ⟨p, G, e, rl, ev, h⟩ := this
  refine ⟨p, G, e, rl, ev, ?_⟩
  cases hm : ma e G with
  | bad => rw [hm] at h; exact h
  | exc c G1 => rw [hm] at h; exact h
  | ok y G1 =>
    rw [hm] at h
    intro q H1 v pr t r1 dv
    obtain ⟨z, r, e1, e2, e3, e4⟩ := h q H1 v pr t r1 dv
    exact ⟨z, r, e1, e2, e3, _, rfl, e4⟩
theorem ix_kd {d : Addr} {es : Array DictEntry} {n : Nat} (D : KDict X.K X.w d es n) : IxR X (fun x y H Q => ∃ (z : Str) (u0 : Value) (v0 : V), x = .ref d ∧ y = .str z ∧ PySem.W.nsIn X.K d z = some (some u0) ∧ RelV v0 u0 ∧ Q v0 H) := by
  intro value slice pins s σ H x y v u Q I rx ry h hs
  obtain ⟨z, u0, v0, rfl, rfl, q⟩ := h
  obtain rfl : v = Value.ref d := rx
  exact tail_any (kd_type D I) slot_dict_getitem.lookup (op_item_kd D pins s σ H (.ref d) (.str z) (.ref d) u Q I rfl ry ⟨z, u0, v0, rfl, rfl, q⟩) hs
theorem se_tabAt {x : Str} {kvs : List (Str × Int)} {p0 : Pos} (hg : Gl X x) (hm : TabF X.K X.w X.mg x kvs) (ha : SE X W a ma) (hs : PlainIx a) (hd : (x == ("__debug__" : Str)) = false) : SE X W (.Subscript (.Name x p0) a pos) (mTabAt kvs ma) := by
  obtain ⟨d, es, n, h1, h2, h3⟩ := hm.ex
  refine pe_imp (pe_ix (ix_kd h2) (pe_glob (v := .ref d) hg h1 rfl hd) ha hs) fun σ H Q ⟨p, G, e, rl, ev, h⟩ => ?_
  refine ⟨p, G, e, rl, ev, Co.bind (r := ma e G) h fun x G1 q H1 v pr t r1 dv h1 => ?_⟩
  cases x with
  | str z =>
    cases inv_str dv
    dsimp only at h1
    rcases h3 z with ⟨i, t', e1, e2⟩ | ⟨e1, e2⟩
    · rw [e1] at h1
      exact ⟨z, _, .int i, rfl, rfl, e2, ⟨t', rfl⟩, h1.here r1 (.int i)⟩
    · rw [e1] at h1
      exact co_bad h1
  | _ => exact co_bad h1
@[simp] def mDisp (ks : List Str) (m : MA0) : ME0 := fun e G => (m e (G ++ [.dct []])).bind fun ds G1 => if ds.length = ks.length ∧ ks.length ≤ 15 ∧ isD0 G1 G.length = true then .ok (.ref G.length) (G1.set G.length (.dct (mergeD [] (ks.zip ds |>.map fun q => (Sum.inr q.1, q.2))))) else .bad
structure PsM (X : Cx) (W : WX) (pos : Pos) (keys : List (Option Expr)) (es : List Expr) (ks : List Str) (m : MA0) : Prop where
  ex : ∃ trs, PPs X pos keys es trs ∧ ∀ (σ : St) (H : Hp) (Q : List (V × V) → Hp → Prop) (p : List Addr) (G : Gp) (e : En), Rel X.K p G H → Envs X.K p H σ e → Co X.K W σ p H (Dens X.K) (m e G) (fun vs H' => Q ((ks.zip vs).map fun q => (V.str q.1, q.2)) H') → tPairs trs σ H Q
theorem ps_nil : PsM X W pos [] [] [] maNil := ⟨[], pps_nil, fun σ H Q p G e rl ev h => by
  have h' : Co X.K W σ p H (Dens X.K) (.ok [] G) _ := h
  exact h'.here rl .nil⟩
theorem ps_cons {k : Str} {j : Nat} {kp : Pos} {keys : List (Option Expr)} {ks : List Str} (ha : SE X W a ma) (hr : PsM X W pos keys es ks m) : PsM X W pos (some (.Constant (.str k) j kp) :: keys) (a :: es) (k :: ks) (maCons ma m) := by
  obtain ⟨trs, h1, h2⟩ := hr.ex
  refine ⟨(tC (.str k), tE X.K W ma) :: trs, pps_cons pe_str ha h1, fun σ H Q p G e rl ev h => ?_⟩
  show tE X.K W ma σ H _
  have h' : Co X.K W σ p H (Dens X.K) ((ma e G).bind fun x G => (m e G).bind fun xs G => .ok (x :: xs) G) _ := h
  refine ⟨p, G, e, rl, ev, h'.bind fun x G1 q H1 v pr t r1 dv h1 => ?_⟩
  refine h2 σ H1 _ q G1 e r1 (ev.mono t pr) (h1.bind fun xs G2 q2 H2 vs pr2 t2 r2 dvs h3 => ?_)
  exact h3.here r2 (.cons (dv.mono t2 pr2) dvs)
theorem kvs_zip {K : PySem.W.Frag} {p : List Addr} {H : Hp} : ∀ {ks : List Str} {vs : List V} {ds : List D}, Dens K p H vs ds → KVs K p H ((ks.zip vs).map fun q => (Sum.inr q.1, q.2)) ((ks.zip ds).map fun q => (Sum.inr q.1, q.2))
  | [], _, _, _ => .nil
  | _ :: _, _, _, .nil => .nil
  | k :: ks, _, _, .cons hd hs => .cons hd (kvs_zip hs)
theorem isD0_inv {G : Gp} {n : Nat} (h : isD0 G n = true) : G[n]? = some (.dct []) := by
  unfold isD0 at h
  split at h
  · rename_i kvs g
    rw [g, List.isEmpty_iff.mp h]
  · cases h
theorem se_disp {keys : List (Option Expr)} {ks : List Str} (h : PsM X W pos keys es ks m) (hall : keys.all (·.isSome) = true) (hl : keys.length = es.length) (h0 : keys ≠ []) (h15 : keys.length ≤ 15) : SE X W (.Dict keys es pos) (mDisp ks m) := by
  obtain ⟨trs, h1, h2⟩ := h.ex
  refine pe_imp (pe_disp h1 hall hl h0 h15) fun σ H Q ⟨p, G, e, rl, ev, h⟩ b hb => ?_
  have tu : Tu H (upd H b (.dK [])) := Tu.new hb
  have r1 : Rel X.K (p ++ [b]) (G ++ [.dct []]) (upd H b (.dK [])) := rl.new (o := .dct []) hb ⟨[], upd_same, .nil⟩
  refine h2 σ _ _ (p ++ [b]) (G ++ [.dct []]) e r1 (ev.mono tu (pre_app p b)) ?_
  have h' : Co X.K W σ p H (Den X.K) ((m e (G ++ [.dct []])).bind fun ds G1 => if ds.length = ks.length ∧ ks.length ≤ 15 ∧ isD0 G1 G.length = true then .ok (.ref G.length) (G1.set G.length (.dct (mergeD [] (ks.zip ds |>.map fun q => (Sum.inr q.1, q.2))))) else .bad) Q := h
  refine (Co.later h' (pre_app p b) tu).bind fun ds G1 q H1 vs pr t r2 dvs h3 => ?_
  split at h3
  · rename_i hc
    obtain ⟨c1, c2, c3⟩ := hc
    have hq : q[G.length]? = some b := pre_get pr (by rw [← rl.len]; simp)
    have hg := isD0_inv c3
    obtain ⟨ws, hw, hk⟩ := r2.dct hq hg
    cases hk
    refine ⟨hw, (ks.zip vs).map fun q => (Sum.inr q.1, q.2), ?_, ?_, ?_⟩
    · rw [List.map_map]; rfl
    · rw [List.length_map, List.length_zip]; omega
    · have tu2 : Tu H1 (upd H1 b (.dK (mergeK [] ((ks.zip vs).map fun q => (Sum.inr q.1, q.2))))) := Tu.set hw id
      exact h3 q _ (.ref b) (List.prefix_refl q) tu2 (r2.set (o := .dct _) hq hw id ⟨_, upd_same, (kvs_merge (kvs_zip dvs) .nil).mono tu2 (List.prefix_refl _)⟩) (.ref hq)
  · exact co_bad h3
theorem se_disp0 : SE X W (.Dict [] [] pos) (mDisp [] maNil) := by
  refine pe_imp pe_dnewK fun σ H Q ⟨p, G, e, rl, ev, h⟩ b hb => ?_
  have h' : Co X.K W σ p H (Den X.K) (mDisp [] maNil e G) Q := h
  have e1 : mDisp [] maNil e G = .ok (.ref G.length) (G ++ [.dct []]) := by
    simp [isD0, mergeD]
  rw [e1] at h'
  exact co_newO rl h' hb ⟨[], upd_same, .nil⟩
def mAugI (o : ME0) (k : Str) (v : ME0) : MS0 := fun e G => match o e G with
  | .ok x G1 => (match x with
    | .ref n => (match G1[n]? with
      | some (.dct kvs) => (match getK kvs (.inr k) with
        | some (.int y) => (match v e G1 with
          | .ok (.int z) G2 => (match G2[n]? with
            | some (.dct kvs2) => if kvs2.length < big then .nx e (G2.set n (.dct (putD kvs2 (.inr k) (.int (y + z))))) else .bad
            | _ => .bad)
          | .ok _ _ => .bad
          | .exc c G2 => .exc c e G2
          | .bad => .bad)
        | _ => .bad)
      | _ => .bad)
    | _ => .bad)
  | .exc c G1 => .exc c e G1
  | .bad => .bad
theorem ss_augI {k : Str} {j : Nat} {p2 p3 : Pos} (hu : X.A.units + 65 < cLine) (ho : SE X W o mo) (ha : SE X W a ma) :
    SS X W (.AugAssign (.Subscript o (.Constant (.str k) j p2) p3) .Add a pos) (mAugI mo k ma) := by
  refine ps_imp (ps_daug (by omega) ho pe_str ha in_add (fun _ _ _ => rfl)) fun D σ H ⟨p, G, e, rl, ev, h⟩ => ⟨p, G, e, rl, ev, ?_⟩
  have h' : CoS X.K W p H (mAugI mo k ma e G) D := h
  unfold mAugI at h'
  cases hm : mo e G with
  | bad => rw [hm] at h'; exact h'
  | exc c G1 => rw [hm] at h'; exact fun q H1 pr t1 r1 => h' q σ H1 pr t1 r1 (ev.mono t1 pr)
  | ok x G1 =>
    rw [hm] at h'
    dsimp only at h'
    intro q1 H1 v p1 t1 r1 dv
    cases x with
    | ref n =>
      obtain ⟨b, rfl, hb⟩ := inv_ref dv
      dsimp only at h'
      split at h'
      · rename_i kvs g
        split at h'
        · rename_i y hy
          obtain ⟨ws, hw, hk⟩ := r1.dct hb g
          obtain ⟨w, hv, dw⟩ := (kvs_get (k := .inr k) hk).1 _ hy
          cases inv_int dw
          refine ⟨b, .int y, rfl, ?_, q1, G1, e, r1, ev.mono t1 p1, ?_⟩
          · have := DGet.k (k := .inr k) hw
            rw [hv] at this
            exact this
          · cases hm2 : ma e G1 with
            | bad => rw [hm2] at h'; exact h'
            | exc c G2 => rw [hm2] at h'; exact fun q H2 pr t2 r2 => h' q σ H2 (p1.trans pr) (t1.trans t2) r2 ((ev.mono t1 p1).mono t2 pr)
            | ok z G2 =>
              rw [hm2] at h'
              intro q2 H2 u p2 t2 r2 du
              cases z with
              | int z =>
                cases inv_int du
                refine ⟨y, z, rfl, rfl, ?_⟩
                dsimp only at h'
                split at h'
                · rename_i kvs2 g2
                  split at h'
                  · rename_i hl0
                    obtain ⟨ws2, hw2, hk2⟩ := r2.dct (pre_get p2 hb) g2
                    have tu : Tu H2 (upd H2 b (.dK (putK ws2 (.inr k) (.int (y + z))))) := Tu.set hw2 id
                    refine ⟨_, DPut.k (k := .inr k) (v := .int (y + z)) hw2 (by rw [kvs_len hk2]; exact big_lt hl0), ?_⟩
                    exact h' q2 σ _ (p1.trans p2) ((t1.trans t2).trans tu) (r2.set (o := .dct _) (pre_get p2 hb) hw2 id ⟨_, upd_same, (kvs_put (.int _) hk2).mono tu (List.prefix_refl _)⟩) (((ev.mono t1 p1).mono t2 p2).mono tu (List.prefix_refl _))
                  · exact h'.elim
                · exact h'.elim
              | _ => exact h'.elim
        · exact h'.elim
      · exact h'.elim
    | _ => exact h'.elim
end
end Mw
namespace Mw
open PySem L2
open PyProof.Rows hiding St
section
variable {X : Cx} {W : WX} {a b o : Expr} {ma mb mo : ME0} {pos : Pos}
def dIsx (ex : Option (Addr × Nat)) (h : Option Nat) (x : D) (G : Gp) : R Bool := match x with
  | .exn a c => if ex = some (a, c) then .ok (match h with | some h => exSub c h | none => true) G else .bad
  | _ => .bad
def mIsx (ex : Option (Addr × Nat)) (h : Option Nat) (a : ME0) : En → Gp → R Bool := fun e G => (a e G).bind fun x G => dIsx ex h x G
/-- a class's name: an own refusal, or ValueError -/
def hname : Option Nat → Str
  | some h => xname h
  | none => "ValueError"
def hval (K : PySem.W.Frag) : Option Nat → Value
  | some h => .ref (He.ga K (xname h))
  | none => .type "ValueError"
def hV (K : PySem.W.Frag) : Option Nat → V
  | some h => .ref (He.ga K (xname h))
  | none => .ty "ValueError"
def hsub (c : Nat) : Option Nat → Bool
  | some h => exSub c h
  | none => true
def hMg (K : PySem.W.Frag) (mg : Str → Option Value) : Option Nat → Prop
  | some k => mg (xname k) = some (.ref (He.ga K (xname k)))
  | none => mg "ValueError" = none
structure IsX (X : Cx) (xs : List Nat) (a : Addr) (c : Nat) : Prop where
  cr : CallR X (.builtin "isinstance") (rIsE X.K (He.ga X.K (xname c)) a)
  one : ∀ h : Option Nat, (∀ k, h = some k → k ∈ xs) → PySem.W.kitOne X.K (.ref (He.ga X.K (xname c))) (hval X.K h) = some (hsub c h)
theorem se_isx {ex : Option (Addr × Nat)} {xs : List Nat} {h : Option Nat} {p1 p2 : Pos} (ha : SE X W a ma) (hx : ∀ z c, ex = some (z, c) → IsX X xs z c) (hh : ∀ k, h = some k → k ∈ xs) (hgI : Gl X "isinstance") (hmI : X.mg "isinstance" = none)
    (hgT : Gl X (hname h)) (hmT : hMg X.K X.mg h)
    (he : starEach [a, .Name (hname h) p2] X.env = (false, eval a X.env) :: starEach [.Name (hname h) p2] X.env) : SE X W (.Call (.Name "isinstance" p1) [a, .Name (hname h) p2] [] pos) (mOfB (mIsx ex h ma)) := by
  have hT : PE X (.Name (hname h) p2) (tC (hV X.K h)) := by
    cases h with
    | some k => exact pe_glob (v := .ref _) hgT hmT rfl (xname_plain k)
    | none => exact pe_bltn (v := .ty "ValueError") hgT hmT (by decide +kernel : bootBuiltins (hname none) = some (.type "ValueError")) rfl (by decide +kernel) (by decide +kernel)
  have hr : ∀ u, RelV (hV X.K h) u → u = hval X.K h := fun u r => by
    cases h with
    | some k => exact r
    | none => exact r
  have key : ∀ (x : D) (G : Gp), dIsx ex h x G = (match x with
      | .exn z c => if ex = some (z, c) then .ok (hsub c h) G else .bad
      | _ => .bad) := fun x G => by
    cases h <;> cases x <;> rfl
  have CR : CallR X (.builtin "isinstance") (fun vs H Q => ∃ z c, ex = some (z, c) ∧ rIsE X.K (He.ga X.K (xname c)) z vs H Q) := fun pins s σ H vs us Q I r ⟨z, c, e1, q⟩ => (hx z c e1).cr pins s σ H vs us Q I r q
  refine pe_imp (pe_callB CR hgI hmI (by decide +kernel) (pa_cons ha (pa_cons hT pa_nil rfl) he) (by decide) (by decide) he rfl) fun σ H Q ⟨p, G, e, rl, ev, q⟩ => ?_
  have q' : Co X.K W σ p H (Den X.K) ((ma e G).bind fun x G => (dIsx ex h x G).bind fun b G => .ok (D.bl b) G) Q := by
    unfold mOfB mIsx at q
    cases hm : ma e G <;> rw [hm] at q <;> exact q
  refine ⟨p, G, e, rl, ev, q'.bind fun x G1 q1 H1 v pr t1 r1 dv h1 => ?_⟩
  show ∃ z c, ex = some (z, c) ∧ rIsE X.K (He.ga X.K (xname c)) z [v, hV X.K h] H1 Q
  rw [key] at h1
  split at h1
  · rename_i z c
    split at h1
    · rename_i hex
      cases dv
      exact ⟨z, c, hex, _, _, _, rfl, hr, (hx z c hex).one h hh, h1.here r1 (.bl _)⟩
    · exact co_bad (α := D) h1
  · exact co_bad (α := D) h1
def dIsi2 (x : D) (t u : Ty) (G : Gp) : R Bool := match x with
  | .non => .ok false G
  | .bl _ => .ok (t.isBl || u.isBl) G
  | .int _ => .ok (t.isInt || u.isInt) G
  | .str _ => .ok (t.isStr || u.isStr) G
  | .tup _ => .ok (t.isTup || u.isTup) G
  | _ => .bad
def mIsi2 (t u : Ty) (a : ME0) : En → Gp → R Bool := fun e G => (a e G).bind fun x G => dIsi2 x t u G
theorem pe_ty {t : Ty} {p2 : Pos} (hgT : Gl X (Str.ofString t.nm)) (hmT : X.mg (Str.ofString t.nm) = none) : PE X (.Name (Str.ofString t.nm) p2) (tC (.ty t.nm)) := by
  cases t
  · exact pe_bltn hgT hmT (by decide +kernel : bootBuiltins (Str.ofString "int") = some (.type "int")) rfl (by decide +kernel) (by decide +kernel)
  · exact pe_bltn hgT hmT (by decide +kernel : bootBuiltins (Str.ofString "bool") = some (.type "bool")) rfl (by decide +kernel) (by decide +kernel)
  · exact pe_bltn hgT hmT (by decide +kernel : bootBuiltins (Str.ofString "str") = some (.type "str")) rfl (by decide +kernel) (by decide +kernel)
  · exact pe_bltn hgT hmT (by decide +kernel : bootBuiltins (Str.ofString "tuple") = some (.type "tuple")) rfl (by decide +kernel) (by decide +kernel)
  · exact pe_bltn hgT hmT (by decide +kernel : bootBuiltins (Str.ofString "list") = some (.type "list")) rfl (by decide +kernel) (by decide +kernel)
theorem kit_any2 {K : PySem.W.Frag} {s t u : String} {b c : Bool} (h1 : kitB s t = some b) (h2 : kitB s u = some c) : PySem.W.kitAny K (.type s) [.type t, .type u] = some (b || c) := by
  refine kitAny_cons (kit_ty h1) (fun hb => ?_) (fun hb => by rw [hb]; rfl)
  refine kitAny_cons (kit_ty h2) (fun hc => ?_) (fun hc => by rw [hb, hc]; rfl)
  rw [hb, hc]
  rfl
theorem se_isi2 {t u : Ty} {k : Nat} {p1 p2 p3 p4 : Pos} (ha : SE X W a ma) (hgI : Gl X "isinstance") (hmI : X.mg "isinstance" = none) (hgT : Gl X (Str.ofString t.nm)) (hmT : X.mg (Str.ofString t.nm) = none) (hgU : Gl X (Str.ofString u.nm)) (hmU : X.mg (Str.ofString u.nm) = none)
    (he : starEach [a, .Tuple [.Name (Str.ofString t.nm) p2, .Name (Str.ofString u.nm) p3] k p4] X.env = (false, eval a X.env) :: starEach [.Tuple [.Name (Str.ofString t.nm) p2, .Name (Str.ofString u.nm) p3] k p4] X.env) :
    SE X W (.Call (.Name "isinstance" p1) [a, .Tuple [.Name (Str.ofString t.nm) p2, .Name (Str.ofString u.nm) p3] k p4] [] pos) (mOfB (mIsi2 t u ma)) := by
  refine pe_imp (pe_callB call_isiT hgI hmI (by decide +kernel) (pa_cons ha (pa_cons (pe_tup (pa_cons (pe_ty hgT hmT) (pa_cons (pe_ty hgU hmU) pa_nil rfl) rfl)) pa_nil rfl) he) (by decide) (by decide) he rfl) fun σ H Q ⟨p, G, e, rl, ev, h⟩ => ?_
  have h' : Co X.K W σ p H (Den X.K) ((ma e G).bind fun x G => (dIsi2 x t u G).bind fun b G => .ok (D.bl b) G) Q := by
    unfold mOfB mIsi2 at h
    cases hm : ma e G <;> rw [hm] at h <;> exact h
  refine ⟨p, G, e, rl, ev, h'.bind fun x G1 q H1 v pr t1 r1 dv h1 => ?_⟩
  refine ⟨by show 2 ≤ sizeLine; decide, fun tp htp => ?_⟩
  show rIsiT X.K [v, .ref tp] (upd H1 tp (.tup [.ty t.nm, .ty u.nm])) Q
  have tu : Tu H1 (upd H1 tp (.tup [.ty t.nm, .ty u.nm])) := Tu.new htp
  have r2 := r1.tup (o := .tup [.ty t.nm, .ty u.nm]) htp
  have go : ∀ (ty : String) (b c : Bool), TyX X.K (upd H1 tp (.tup [.ty t.nm, .ty u.nm])) v (.type ty) → kitB ty t.nm = some b → kitB ty u.nm = some c → dIsi2 x t u G1 = .ok (b || c) G1 → rIsiT X.K [v, .ref tp] (upd H1 tp (.tup [.ty t.nm, .ty u.nm])) Q := fun ty b c h2 h3 h3' h4 => by
    rw [h4, R.bind_ok] at h1
    exact ⟨v, tp, _, _, _, _, rfl, upd_same, .cons (.ty _) (.cons (.ty _) .nil), h2, kit_any2 h3 h3', (Co.later h1 (List.prefix_refl _) tu).here r2 (.bl _)⟩
  cases x with
  | non => cases dv; cases t <;> cases u <;> exact go "NoneType" false false (.base .non) (by decide +kernel) (by decide +kernel) rfl
  | bl b => cases dv; cases t <;> cases u <;> exact go "bool" (Ty.isBl _) (Ty.isBl _) (.base (.bl b)) (by decide +kernel) (by decide +kernel) rfl
  | int b => cases dv; cases t <;> cases u <;> exact go "int" (Ty.isInt _) (Ty.isInt _) (.base (.int b)) (by decide +kernel) (by decide +kernel) rfl
  | str b => cases dv; cases t <;> cases u <;> exact go "str" (Ty.isStr _) (Ty.isStr _) (.base (.str b)) (by decide +kernel) (by decide +kernel) rfl
  | tup ds =>
    obtain ⟨y, vs, rfl, hy, hxs⟩ := inv_tup dv
    have hy2 := tu y _ hy trivial
    cases t <;> cases u <;> exact go "tuple" (Ty.isTup _) (Ty.isTup _) (.base (.tup hy2)) (by decide +kernel) (by decide +kernel) rfl
  | scr ns => exact co_bad (α := D) h1
  | exn _ _ => exact co_bad (α := D) h1
  | ref n => exact co_bad (α := D) h1
def bls? : List D → Option (List Bool)
  | [] => some []
  | .bl b :: r => (bls? r).map (b :: ·)
  | _ :: _ => none
def idxB (b : Bool) : List Bool → Option Nat
  | [] => none
  | c :: r => if c = b then some 0 else (idxB b r).map (· + 1)
def dIdx (x y : D) (G : Gp) : R D := match x, y with
  | .ref n, .bl b => (match G[n]? with
    | some (.lst ds) => (match (bls? ds).bind (idxB b) with
      | some j => .ok (.int (j : Nat)) G
      | none => .bad)
    | _ => .bad)
  | _, _ => .bad
def mIdx (o a : ME0) : ME0 := fun e G => (o e G).bind fun x G => (isL x G).bind fun _ G => (a e G).bind fun y G => dIdx x y G
theorem bls_ok {K : PySem.W.Frag} {p : List Addr} {H : Hp} : ∀ {ds : List D} {bs : List Bool} {vs : List V}, bls? ds = some bs → Dens K p H vs ds → vs = bs.map V.bl
  | [], bs, vs, e, h => by
    cases h
    cases e
    rfl
  | d :: ds, bs, vs, e, h => by
    cases d with
    | bl b =>
      cases h with
      | cons h1 h2 =>
        cases h1
        unfold bls? at e
        cases q : bls? ds with
        | none => rw [q] at e; cases e
        | some r =>
          rw [q] at e
          cases e
          rw [bls_ok q h2]
          rfl
    | _ => cases e
theorem idx_ok {b : Bool} : ∀ {bs : List Bool} {j : Nat}, idxB b bs = some j → bs[j]? = some b ∧ ∀ m c, m < j → bs[m]? = some c → c ≠ b
  | [], j, e => by cases e
  | c :: r, j, e => by
    unfold idxB at e
    split at e
    · rename_i hc
      cases e
      exact ⟨by rw [hc]; rfl, fun m c hm => absurd hm (Nat.not_lt_zero m)⟩
    · rename_i hc
      cases q : idxB b r with
      | none => rw [q] at e; cases e
      | some k =>
        rw [q] at e
        cases e
        obtain ⟨h1, h2⟩ := idx_ok q
        refine ⟨by simpa using h1, fun m d hm hd => ?_⟩
        cases m with
        | zero =>
          simp at hd
          subst hd
          exact hc
        | succ m => exact h2 m d (Nat.lt_of_succ_lt_succ hm) (by simpa using hd)
theorem se_idx {apos : Pos} (ho : SE X W o mo) (ha : SE X W a ma) (hbase : attributeBase o "index" X.env (eval o X.env) = eval o X.env)
    (hfew : ((backTo pos (starEach [a] X.env)).all (fun x => !x.1) && (backToKw pos (keywordEach [] X.env)).all (fun x => x.1.isSome) && decide (([a] : List Expr).length + ([] : List Keyword).length + (if ([] : List Keyword).isEmpty then 0 else 1) < 30)) = true)
    (hline : (apos.endLine == pos.line) = true) (hs : starEach [a] X.env = (false, eval a X.env) :: starEach [] X.env) : SE X W (.Call (.Attribute o "index" apos) [a] [] pos) (mIdx mo ma) := by
  refine pe_imp (pe_bm PySem.F.plainAttrs_list PySem.F.slot_list_index PySem.F.type_list_index mt_index ho (pa_cons ha pa_nil hs) hbase hfew hline hs rfl) fun σ H Q ⟨p, G, e, rl, ev, h⟩ => ⟨p, G, e, rl, ev, h.bind fun x G1 q H1 v pr t r1 dv h1 => ?_⟩
  cases x with
  | ref n =>
    obtain ⟨b, rfl, hb⟩ := inv_ref dv
    cases g : G1[n]? with
    | none => rw [show isL (.ref n) G1 = .bad by simp only [isL, g]] at h1; exact co_bad (α := D) h1
    | some o1 =>
      cases o1 with
      | dct _ => rw [show isL (.ref n) G1 = .bad by simp only [isL, g]] at h1; exact co_bad (α := D) h1
      | ins _ => rw [show isL (.ref n) G1 = .bad by simp only [isL, g]] at h1; exact co_bad (α := D) h1
      | lst ds =>
        rw [show isL (.ref n) G1 = .ok () G1 by simp only [isL, g], R.bind_ok] at h1
        obtain ⟨vs, hl, hxs⟩ := r1.lst hb g
        refine ⟨.inl ⟨rfl, vs, .inl (.inl hl)⟩, q, G1, e, r1, ev.mono t pr, h1.bind fun y G2 q2 H2 w pr2 t2 r2 dw h2 => ?_⟩
        unfold dIdx at h2
        split at h2
        · rename_i n' k e1
          cases e1
          cases dw
          split at h2
          · rename_i ds2 g2
            split at h2
            · rename_i j hj
              obtain ⟨vs2, hl2, hxs2⟩ := r2.lst (pre_get pr2 hb) g2
              cases hbs : bls? ds2 with
              | none => rw [hbs] at hj; cases hj
              | some bs =>
                rw [hbs] at hj
                have hj' : idxB k bs = some j := hj
                obtain ⟨i1, i2⟩ := idx_ok hj'
                have evs := bls_ok hbs hxs2
                subst evs
                refine ⟨b, bs.map V.bl, .bl k, j, .bl k, rfl, rfl, .inl (.inl hl2), rfl, List.all_eq_true.mpr fun z hz => ?_, by rw [List.getElem?_map, i1]; rfl, by cases k <;> rfl, fun m z' hm hz => ?_, h2.here r2 (.int _)⟩
                · obtain ⟨c, _, rfl⟩ := List.mem_map.mp hz
                  rfl
                · rw [List.getElem?_map] at hz
                  cases hc : bs[m]? with
                  | none => rw [hc] at hz; cases hz
                  | some c =>
                    rw [hc] at hz
                    cases hz
                    have := i2 m c hm hc
                    revert this
                    cases c <;> cases k <;> first | (intro z; exact absurd rfl z) | (intro _; rfl)
            · exact co_bad h2
          · exact co_bad h2
        · exact co_bad h2
  | _ => exact co_bad (α := D) h1
def dSix (x y : D) (G : Gp) : R D := match x, y with
  | .str z, .int i => if z.length ≤ big then (match atI z.cps.toList i with
    | some c => .ok (.str ⟨#[c]⟩) G
    | none => .bad) else .bad
  | _, _ => .bad
theorem se_six (ha : SE X W a ma) (hb : SE X W b mb) (hs : PlainIx b) : SE X W (.Subscript a b pos) (mBin dSix ma mb) :=
  pe_imp (pe_ix ix_str ha hb hs) fun _ _ _ h => read2 (fun W σ p G H v u x y Q rl dx dy h => by
    unfold dSix at h
    split at h
    · rename_i z i
      cases dx
      cases dy
      split at h
      · rename_i hz
        split at h
        · rename_i c hc
          exact ⟨z, i, c, rfl, rfl, big_line hz, hc, h.here rl (.str _)⟩
        · exact co_bad h
      · exact co_bad h
    · exact co_bad h) h
def dAddS (x y : D) (G : Gp) : R D := match x, y with
  | .str i, .str j => if i.length + j.length ≤ big then .ok (.str (i ++ j)) G else .bad
  | _, _ => .bad
theorem se_addS (ha : SE X W a ma) (hb : SE X W b mb) : SE X W (.BinOp a .Add b pos) (mBin dAddS ma mb) := se_bin op_add_str (fun W σ p G H v u x y Q rl dx dy h => by
    unfold dAddS at h
    split at h
    · rename_i i j
      cases dx
      cases dy
      split at h
      · rename_i hz
        exact ⟨i, j, rfl, rfl, big_line hz, h.here rl (.str _)⟩
      · exact co_bad h
    · exact co_bad h) ha hb
def dLr (x : D) (G : Gp) : R D := match x with
  | .int n => if 0 ≤ n ∧ n ≤ 10000 then .ok (.ref G.length) (G ++ [.lst (rangeD 0 n.toNat)]) else .bad
  | _ => .bad
def mLr (a : ME0) : ME0 := fun e G => (a e G).bind fun x G => dLr x G
theorem rg_dens {K : PySem.W.Frag} {p : List Addr} {H : Hp} (n : Int) : Dens K p H (rgV 0 n) (rangeD 0 n.toNat) := by
  have e : (n - 0).toNat = n.toNat := by rw [Int.sub_zero]
  unfold rgV rangeD
  rw [e]
  generalize List.range n.toNat = l
  induction l with
  | nil => exact .nil
  | cons k l ih => exact .cons (.int _) ih
theorem se_lr {p1 p2 pos2 : Pos} (hc : X.calm = true) (hgL : Gl X "list") (hmL : X.mg "list" = none) (hgR : Gl X "range") (hmR : X.mg "range" = none) (ha : SE X W a ma) (na : starEach [a] X.env = (false, eval a X.env) :: starEach [] X.env) :
    SE X W (.Call (.Name "list" p1) [.Call (.Name "range" p2) [a] [] pos2] [] pos) (mLr ma) := by
  refine pe_imp (pe_listRg hc hgL hmL (prg_1 hgR hmR ha na) rfl) fun σ H Q ⟨p, G, e, rl, ev, h⟩ => ⟨p, G, e, rl, ev, h.bind fun x G1 q H1 v pr t r1 dv h1 => ?_⟩
  unfold dLr at h1
  split at h1
  · rename_i n
    cases dv
    split at h1
    · rename_i hn
      exact ⟨n, rfl, RgOk.of_le (by omega) (by omega) (by omega) (by omega), fun y hy => co_new r1 hy (rg_dens n) h1⟩
    · exact co_bad h1
  · exact co_bad h1
def nodupI : List Int → Bool
  | [] => true
  | i :: r => !(r.contains i) && nodupI r
def dLset (x : D) (G : Gp) : R D := match x with
  | .ref n => (match G[n]? with
    | some (.lst ds) => (match ints? ds with
      | some ns => if ns.length < 64 ∧ nodupI ns = true then .ok (.int (ns.length : Nat)) G else .bad
      | none => .bad)
    | _ => .bad)
  | _ => .bad
def mLset (a : ME0) : ME0 := fun e G => (a e G).bind fun x G => dLset x G
theorem nodupI_ok : ∀ {ns : List Int}, nodupI ns = true → ns.Nodup
  | [], _ => .nil
  | i :: r, h => by
    unfold nodupI at h
    rw [Bool.and_eq_true] at h
    refine List.nodup_cons.mpr ⟨fun hm => ?_, nodupI_ok h.2⟩
    have h1 := h.1
    rw [List.contains_iff_mem.mpr hm] at h1
    cases h1
theorem se_lset {p1 p2 pos2 : Pos} (hc : X.calm = true) (hgL : Gl X "len") (hmL : X.mg "len" = none) (hgS : Gl X "set") (hmS : X.mg "set" = none) (ha : SE X W a ma) (na : starEach [a] X.env = (false, eval a X.env) :: starEach [] X.env) :
    SE X W (.Call (.Name "len" p1) [.Call (.Name "set" p2) [a] [] pos2] [] pos) (mLset ma) := by
  refine pe_imp (pe_lenSetI hc hgL hmL hgS hmS ha na) fun σ H Q ⟨p, G, e, rl, ev, h⟩ => ⟨p, G, e, rl, ev, h.bind fun x G1 q H1 v pr t r1 dv h1 => ?_⟩
  unfold dLset at h1
  split at h1
  · rename_i n
    obtain ⟨b, rfl, hb⟩ := inv_ref dv
    split at h1
    · rename_i ds g
      split at h1
      · rename_i ns hns
        split at h1
        · rename_i hc2
          obtain ⟨vs, hl, hxs⟩ := r1.lst hb g
          have e1 := ints_ok hns hxs
          subst e1
          exact ⟨b, ns, rfl, .inl (.inl hl), hc2.1, nodupI_ok hc2.2, h1.here r1 (.int _)⟩
        · exact co_bad h1
      · exact co_bad h1
    · exact co_bad h1
  · exact co_bad h1
def stripS (i : Nat) : SR → SR
  | .nx e G => .nx (e.set i none) G
  | .bk e G => .bk (e.set i none) G
  | .ct e G => .ct (e.set i none) G
  | .rt d G => .rt d G
  | .exc _ _ _ => .bad
  | .bad => .bad
open Classical in
/-- hd: what the suite does with the caught refusal (the same, wherever it lies) -/
noncomputable def mTryAs (xs : List Nat) (b : MS0) (h i : Nat) (hd : Addr × Nat → MS0) : MS0 := fun e G => match b e G with
  | .exc c e1 G1 => if xs.contains c = true then (if exSub c h = true then (if ∀ a : Addr, stripS i (hd (a, c) (e1.set i (some (.exn a c))) G1) = stripS i (hd (0, c) (e1.set i (some (.exn 0 c))) G1) then stripS i (hd (0, c) (e1.set i (some (.exn 0 c))) G1) else .bad) else .exc c e1 G1) else .bad
  | r => r
theorem ss_tryAs {xs : List Nat} {n : Str} {np pos' : Pos} {body suite : List Stmt} {b₀ : Stmt} {mb : MS0} {h i : Nat} {hd : Addr × Nat → MS0} (hh : h ∈ xs)
    (hx : ∀ c ∈ xs, ∀ h ∈ xs, PySem.W.exmOne X.K (.ref (He.ga X.K (xname c))) (.ref (He.ga X.K (xname h))) = some (exSub c h))
    (hst : X.stack = X.env :: X.outer) (hf : X.env.frame = some X.env.locals) (hN : X.N.Nodup) (hi : X.N[i]? = some n) (hln : X.env.kindOf n = some .local) (hc : Names X (xname h) (.ref (He.ga X.K (xname h)))) (tk : Takes X W)
    (hb : ∀ (W' : WX) (pn : List (Addr × Obj)) (xe : Value → Shared → Prop), Takes (X.tr pn xe) W' → PassesOwn (model X.prog X.w) X.A X.env xe → SB (X.tr pn xe) W' body mb)
    (hs : ∀ (a : Addr) (c : Nat) (oe : Obj) (pn : List (Addr × Obj)), c ∈ xs → Zc (.ref (He.ga X.K (xname c))) none oe → (∃ vs, oe.data = .fields vs) → SB (X.suite a ((a, oe) :: pn)) W0 (b₀ :: suite) (hd (a, c))) :
    SS X W (.Try body [.ExceptHandler (some (.Name (xname h) np)) (some n) (b₀ :: suite) pos'] [] [] pos) (mTryAs xs mb h i hd) := by
  refine ps_imp (ps_try_as (i := i) (c := .ref (He.ga X.K (xname h))) (tb := fun W' => tS X.K W' mb) (ts := fun a cls d D σ H => ∃ c, c ∈ xs ∧ cls = .ref (He.ga X.K (xname c)) ∧ d = none ∧ tS X.K W0 (hd (a, c)) D σ H) hst hf hN hi hln hc tk hb
    fun a oe cls d pn hz hfl => ⟨fun pins s σ H D I ⟨c, q1, q2, q3, q4⟩ => by subst q2 q3; exact (hs a c oe pn q1 hz hfl).run pins s σ H D I q4⟩) fun D σ H ⟨p, G, e, rl, ev, q⟩ => ⟨p, G, e, rl, ev, ?_⟩
  have q' : CoS X.K W p H (mTryAs xs mb h i hd e G) D := q
  show CoS X.K _ p H (mb e G) D
  unfold mTryAs at q'
  cases hm2 : mb e G with
  | nx e5 G5 => rw [hm2] at q'; exact q'
  | ct e5 G5 => rw [hm2] at q'; exact q'
  | bk e5 G5 => rw [hm2] at q'; exact q'
  | rt d5 G5 => rw [hm2] at q'; exact q'
  | bad => rw [hm2] at q'; exact q'
  | exc c e1 G1 =>
    rw [hm2] at q'
    dsimp only at q'
    split at q'
    · rename_i hcx
      have hcx' : c ∈ xs := by simpa using hcx
      intro q2 σ2 H2 pr t r2 ev2
      refine ⟨exSub c h, hx c hcx' h hh, fun hb a ha => ⟨c, hcx', rfl, rfl, q2, G1, e1.set i (some (.exn a c)), r2, ev2.set .exn, ?_⟩, fun hb => ?_⟩
      · rw [if_pos hb] at q'
        split at q'
        · rename_i hall
          rw [← hall a] at q'
          have q3 := CoS.later (W := W) q' pr t
          show CoS X.K W0 q2 H2 (hd (a, c) (e1.set i (some (.exn a c))) G1) _
          cases hr : hd (a, c) (e1.set i (some (.exn a c))) G1 with
          | nx e5 G5 =>
            rw [hr] at q3
            exact fun q5 σ5 H5 pr5 t5 r5 ev5 => q3 q5 _ H5 pr5 t5 r5 ev5.forget
          | ct e5 G5 =>
            rw [hr] at q3
            exact fun q5 σ5 H5 pr5 t5 r5 ev5 => q3 q5 _ H5 pr5 t5 r5 ev5.forget
          | bk e5 G5 =>
            rw [hr] at q3
            exact fun q5 σ5 H5 pr5 t5 r5 ev5 => q3 q5 _ H5 pr5 t5 r5 ev5.forget
          | rt d5 G5 => rw [hr] at q3; exact q3
          | exc k5 e5 G5 => rw [hr] at q3; exact q3.elim
          | bad => rw [hr] at q3; exact q3.elim
        · exact q'.elim
      · rw [if_neg (by rw [hb]; decide)] at q'
        exact q' q2 σ2 H2 pr t r2 ev2
    · exact q'.elim
end
end Mw
namespace Mw
open PySem PySem.Spec PySem.Froz L2
open PyProof.Rows hiding St
structure TxS (P : Program) (w : World) (h : Heap) (S : Addr) (D : SD) (l : List Str) : Prop where
  lies : h.get? S = some (sObj "set" D)
  ok : TxOk P w D l
  nd : l.Nodup
  ris : Ris D.2.2.place.toList
  led : w.params.followText "set-order" = true ∨ D.2.2.led = true
theorem addTx_tab (k : Int) (v : Value) (D : SD) (r : Ris D.2.2.place.toList) : Ris (addTx k v D).2.2.place.toList ∧ (addTx k v D).2.2.led = D.2.2.led := by
  obtain ⟨es, ep, t⟩ := D
  have r1 := layNew_ris t es k v r
  have l1 := layNew_led t es k v
  have key : ∀ t2 : SetTable, Ris t2.place.toList → t2.led = t.led → Ris (tailTx ep (layNew t es k v).1 t2 (layNew t es k v).2.2.1).2.2.place.toList ∧ (tailTx ep (layNew t es k v).1 t2 (layNew t es k v).2.2.1).2.2.led = t.led := fun t2 r2 l2 => by
    unfold tailTx
    split
    · exact ⟨relayAll_ris t2 _ _, (relayAll_led t2 _ _).trans l2⟩
    · exact ⟨r2, l2⟩
  show Ris (tailTx ep _ _ _).2.2.place.toList ∧ (tailTx ep _ _ _).2.2.led = t.led
  refine key _ ?_ ?_
  · dsimp only
    split
    · exact r1
    · exact r1
  · dsimp only
    split
    · exact l1
    · exact l1
section
variable {P : Program} {w : World} {A : Around} {E : Value → Shared → Prop} {s : Shared} {S : Addr} {D : SD} {l : List Str}
theorem TxS.go {h h' : Heap} (T : TxS P w h S D l) (k : ∀ o, h.get? S = some o → h'.get? S = some o) : TxS P w h' S D l := ⟨k _ T.lies, T.ok, T.nd, T.ris, T.led⟩
/-- a text that is there already -/
theorem old_x {k : Str} {u : Tok} {Q : Bool → Shared → Prop} (T : TxS P w s.heap S D l) (hk : k ∈ l) (few : l.length < scanBound) (q : Q false s) : wpAny (model P w) A (setAddHashed S (.str k u) ((strKind P w).hash k)) Q E s := by
  obtain ⟨es, ep, t⟩ := D
  have dt : (sObj "set" (es, ep, t)).data = .set es ep t := rfl
  have szs : es.size < scanBound := by rw [show es.size = l.length from T.ok.sz]; exact few
  have same : (strKind P w).is k (.str k u) = true := is_str k u
  have els : ElemsOf (strKind P w) es.toList := T.ok.el
  unfold setAddHashed setAddHashedIn
  refine wpAny_holding (wpAny_bind (wpAny_setState_of T.lies dt T.ok.fit ?_))
  dsimp only
  rw [byScan_of rfl szs els]
  simp only [↓reduceIte]
  unfold setAddByScan
  refine wpAny_bind (wpAny_bind (wpAny_rule (wpAny_bind (wpAny_setScan_of same T.lies dt T.ok.fit els ?_))))
  cases f : List.findIdx? (fun e => (strKind P w).is k e.2) es.toList with
  | some j => exact wpAny_pure (wpAny_pure q)
  | none =>
    obtain ⟨e, m, z⟩ := (T.ok.mem k).mp hk
    have c := List.findIdx?_eq_none_iff.mp f e m
    rw [z] at c
    cases c
/-- the texts of a list, one by one, into the set -/
theorem upd_txts {I : Addr} {fp wr : List Addr} {G : Array GenState → Array GenState → Prop} {n : Nat} {Pv : Nat → Value → Prop} {St : Nat → Shared → Prop} {R : Result → Shared → Prop} (W : WalksS P w A.in1 I fp wr G n Pv St) (nS : S ∉ fp) (xs : List Str) (hn : n = xs.length)
    (hv : ∀ i v, Pv i v → ∃ x t, xs[i]? = some x ∧ v = .str x t) (few : xs.length < 64) (fin : ∀ s1 D l, Moved (S :: wr) G s s1 → TxS P w s1.heap S D l → (∀ x, x ∈ l ↔ x ∈ xs) → l.length ≤ xs.length → R (.ok (.ret .none)) s1) :
    ∀ (m i : Nat) (s1 : Shared) (D : SD) (l : List Str), n - i = m → i ≤ n → St i s1 → Moved (S :: wr) G s s1 → TxS P w s1.heap S D l → (∀ x, x ∈ l ↔ x ∈ xs.take i) → l.length ≤ i → codeAny (model P w) A (.builtin "set.update.loop" ⟨[.ref S, .ref I], []⟩) R s1 := by
  have nw : S ∉ wr := fun z => nS (W.sub _ z)
  have up : ∀ b ∈ wr, b ∈ S :: wr := fun b z => List.mem_cons_of_mem _ z
  intro m
  induction m with
  | zero =>
    intro i s1 D l e0 le st mv T ml ll
    obtain rfl : i = n := by omega
    refine codeAny_builtin PyProof.Rows.F.entry_set_update_loop ?_; rw [Around.under_plainId PyProof.Rows.F.plain_set_update_loop _]
    refine wpAny_bind (m := pyNext (.ref I)) (W.done s1 _ _ st fun s2 m2 => ?_)
    refine wpAny_pure (fin s2 D l (Moved.trans W.gtrans mv (m2.mono up)) (T.go fun o z => m2.heap S o nw z) (fun x => ?_) (by omega))
    rw [ml x, List.take_of_length_le (by omega)]
  | succ m ih =>
    intro i s1 D l e0 le st mv T ml ll
    have lt : i < n := by omega
    refine codeAny_builtin PyProof.Rows.F.entry_set_update_loop ?_; rw [Around.under_plainId PyProof.Rows.F.plain_set_update_loop _]
    refine wpAny_bind (m := pyNext (.ref I)) (W.item i s1 _ _ lt st fun v s2 pv st2 m2 => ?_)
    obtain ⟨x, t, hx, rfl⟩ := hv i v pv
    have T2 : TxS P w s2.heap S D l := T.go fun o z => m2.heap S o nw z
    have mv2 : Moved (S :: wr) G s s2 := Moved.trans W.gtrans mv (m2.mono up)
    have tk1 : xs.take (i + 1) = xs.take i ++ [x] := by rw [List.take_add_one, hx]; rfl
    have more : ∀ (h' : Heap) (D' : SD) (l' : List Str), TxS P w h' S D' l' → (∀ y, y ∈ l' ↔ y ∈ xs.take (i + 1)) → l'.length ≤ i + 1 → (∀ b o, b ≠ S → s2.heap.get? b = some o → h'.get? b = some o) → codeAny (model P w) A (.builtin "set.update.loop" ⟨[.ref S, .ref I], []⟩) R { s2 with heap := h', toks := s2.toks + 1 } := fun h' D' l' T' ml' ll' oth => by
      refine ih (i + 1) _ D' l' (by omega) lt (W.frame _ s2 _ _ st2 (Nat.le_succ _) fun b hb o z => oth b o (fun q => nS (q ▸ hb)) z) ?_ T' ml' ll'
      exact mv2.then_heap (Nat.le_succ _) fun b o hb z => oth b o (fun q => hb (q ▸ List.mem_cons_self)) z
    show wpAny _ A.in1 (holding [Value.str x t] (setAdd S (.str x t)) >>= _) _ _ s2
    refine wpAny_bind (wpAny_holding ?_)
    unfold setAdd
    refine wpAny_holding (wpAny_bind ((strKind P w).pyHash (k := x) (is_str x t) ?_))
    by_cases hm : x ∈ l
    · refine old_x (s := { s2 with toks := s2.toks + 1 }) T2 hm (by unfold scanBound; omega) (wpAny_pure ⟨plainId_quiet PyProof.Rows.F.plain_set_update_loop _, more s2.heap D l T2 (fun y => ?_) (by omega) fun _ _ _ z => z⟩)
      rw [tk1, List.mem_append, List.mem_singleton, ml y]
      exact ⟨.inl, fun q => q.elim id fun q => q ▸ (ml x).mp hm⟩
    · have ris := addTx_tab (hashStr w x) (.str x t) D T2.ris
      refine add_x (s := { s2 with toks := s2.toks + 1 }) (l := l) T2.lies T2.ok hm (by unfold scanBound; omega) (wpAny_pure ⟨plainId_quiet PyProof.Rows.F.plain_set_update_loop _, more _ (addTx (hashStr w x) (.str x t) D) (x :: l) ⟨get_upd _ T2.lies rfl, add_ok t T2.ok, List.nodup_cons.mpr ⟨hm, T2.nd⟩, ris.1, T2.led.imp id fun z => ris.2.trans z⟩ (fun y => ?_) (by rw [List.length_cons]; omega) fun b o nb z => PySem.Heap.get?_update_of_ne _ (Ne.symm nb) z⟩)
      rw [tk1, List.mem_append, List.mem_singleton, List.mem_cons, ml y]
      exact Or.comm
end
def set0 (w : World) : Obj := { cls := .type "set", dict := none, data := .set #[] 0 (.fresh 0 0 (!w.params.followText "set-order")) }
theorem txS_new {P : Program} {w : World} {h : Heap} {S : Addr} (q : h.get? S = some (set0 w)) : TxS P w h S (#[], 0, .fresh 0 0 (!w.params.followText "set-order")) [] := ⟨q, TxOk.nil rfl, .nil, List.Pairwise.nil, by
  show _ ∨ (!w.params.followText "set-order") = true
  cases w.params.followText "set-order" <;> simp⟩
section
variable {P : Program} {w : World} {A : Around} {E : Value → Shared → Prop} {s : Shared}
theorem get_none {h : Heap} {b : Addr} (q : h.objs.size ≤ b) : h.get? b = none := by
  cases z : h.get? b with
  | none => rfl
  | some o => exact absurd (Heap.lt_size z) (Nat.not_lt.mpr q)
/-- set(xs), xs texts -/
theorem set_txts {lst : Addr} {its : Array Value} {xs : List Str} {Q : Value → Shared → Prop} (hd : A.handled = none) (il : s.heap.IsList lst its) (ar : StrsAre its.toList xs) (few : xs.length < 64)
    (q : ∀ (h' : Heap) (tk : Nat) (D : SD) (l : List Str), TxS P w h' s.heap.objs.size D l → (∀ x, x ∈ l ↔ x ∈ xs) → l.length ≤ xs.length → (∀ b o, s.heap.get? b = some o → h'.get? b = some o) → Q (.ref s.heap.objs.size) { s with heap := h', toks := tk }) :
    wpAny (model P w) A (call (.type "set") [.ref lst]) Q E s := by
  have isz : its.size = xs.length := by rw [← Array.length_toList, ar.length]
  obtain ⟨cc, tt, mro0⟩ := PySem.F.called_set.mro
  have made0 := PySem.F.called_set.made; have sub0 := PySem.F.called_set.sub
  refine wpAny_call (codeAny_of_tree (show wpAny _ _ (callAny (.type "set") _) _ _ _ from ?_))
  refine wpAny_pure ⟨Code.quiet_builtin _ (by decide +kernel), codeAny_builtin PySem.F.entry_type_call ?_⟩; rw [Around.under_plain (weight_type_call_type "set" [.ref lst] []) rfl]
  have no0 := PySem.F.called_set.notType; have can0 := PySem.F.called_set.canCreate; have one0 := PySem.F.typeCall_set_1 (.ref lst)
  repeat (any_goals (first | assumption | wp_step))

  refine codeAny_mono (code_set_led1 (.ref lst) (E := E) (Q₁ := fun obj s1 => obj = .ref s.heap.objs.size ∧ s1 = { s with heap := s.heap.push (set0 w) }) ⟨rfl, rfl⟩) fun r s1 hr => ?_
  cases r with
  | error _ => exact hr
  | ok fl =>
    cases fl with
    | ret obj =>
      obtain ⟨rfl, rfl⟩ := hr
      have at0 : (s.heap.push (set0 w)).get? s.heap.objs.size = some (set0 w) := Heap.get?_push_size _ rfl
      have ty0 : Shared.TypeIs { s with heap := s.heap.push (set0 w) } (.ref s.heap.objs.size) "set" := ⟨_, at0, rfl⟩
      have li0 := PySem.F.called_set.init.lookup; have bi0 := PySem.F.called_set.init.bind (.ref s.heap.objs.size)
      repeat (any_goals (first | assumption | wp_step))

      refine codeAny_mono (codeAny_call_builtin (R := wants (fun r s2 => r = .none ∧ ∃ h' tk D l, s2 = { s with heap := h', toks := tk } ∧ TxS P w h' s.heap.objs.size D l ∧ (∀ x, x ∈ l ↔ x ∈ xs) ∧ l.length ≤ xs.length ∧
          (∀ b o, s.heap.get? b = some o → h'.get? b = some o)) E) PySem.F.called_set.init.plain PySem.F.entry_set_init (check_set_init_1 ty0 ?_)) fun r2 s2 hr2 => ?_
      · obtain ⟨ob, ho, oc, nn, od⟩ := il
        obtain ⟨c1, d1, e1, f1⟩ := ob
        simp only at oc od
        subst oc; subst od
        have ho1 : (s.heap.push (set0 w)).get? lst = some { cls := .type "list", dict := d1, data := .seq its nn, slots := f1 } := Heap.get?_push_of_some _ ho
        have su1 := PySem.F.sub_list_set; have su2 := PySem.F.sub_list_frozenset; have ne0 : (Value.type "list" == Value.type "dict") = false := by decide
        have il1 : (s.heap.push (set0 w)).IsList lst its := ⟨_, ho1, rfl, nn, rfl⟩
        unfold Builtin.«set.__init__» noKeywords Builtin.Frozenset.updateFrom; generalize hI : pyIter = PI
        wp_walk
        subst hI

        refine wpAny_pyIter_list il1 (wpAny_bind (wpAny_runValue ?_))
        have lt0 : lst < s.heap.objs.size := Heap.lt_size ho
        have ha3 : A.in1.in1.in1.handled = none := by simp [hd]
        have sz1 : (s.heap.push (set0 w)).objs.size = s.heap.objs.size + 1 := Heap.size_push ..
        have nei : lst ≠ (s.heap.push (set0 w)).objs.size := by rw [sz1]; exact Nat.ne_of_lt (Nat.lt_succ_of_lt lt0)
        have nS : s.heap.objs.size ∉ [(s.heap.push (set0 w)).objs.size, lst] := by
          intro z; rcases List.mem_cons.mp z with z | z
          · exact absurd z (by rw [sz1]; exact Nat.ne_of_lt (Nat.lt_succ_self _))
          · exact absurd (List.mem_singleton.mp z) (Nat.ne_of_gt lt0)
        have two : ∀ b o, s.heap.get? b = some o → ((s.heap.push (set0 w)).push { cls := .type "list_iterator", data := .fields #[.ref lst, .int 0 0] }).get? b = some o := fun b o z => Heap.get?_push_of_some _ (Heap.get?_push_of_some _ z)
        refine upd_txts (s := { s with heap := (s.heap.push (set0 w)).push { cls := .type "list_iterator", data := .fields #[.ref lst, .int 0 0] } }) ((Walks.list ha3 _ lst nei its).toS) nS xs isz (fun i v z => ?_) few (fun s3 D l mv T ml ll => ?_) (its.size - 0) 0 _ _ [] rfl (Nat.zero_le _) ?_ ⟨fun _ _ _ z => z, rfl, rfl, rfl, Nat.le_refl _⟩ (txS_new (Heap.get?_push_of_some _ at0)) (by simp) (by simp)
        · have z' : its.toList[i]? = some v := by rw [Array.getElem?_toList]; exact z
          obtain ⟨t, e⟩ := _root_.SS.strs_at ar i v z'
          have lti : i < xs.length := by rw [← ar.length]; exact (List.getElem?_eq_some_iff.mp z').1
          exact ⟨_, t, by rw [List.getElem?_eq_getElem lti]; simp [List.getD, lti], e⟩
        · obtain ⟨h', g2, d2, tk2, os2⟩ := s3
          have eg : g2 = s.gens := mv.gens; have ed : d2 = s.drawn := mv.drawn; have eo : os2 = s.os := mv.os
          subst eg; subst ed; subst eo
          refine wpAny_pure (show wpAny _ _ (ret Value.none) _ _ _ from wpAny_pure ⟨rfl, h', tk2, D, l, rfl, T, ml, ll, fun b o z => mv.heap b o (fun hb => ?_) (two b o z)⟩)
          have lb := Heap.lt_size z
          rcases List.mem_cons.mp hb with hb | hb
          · exact absurd hb (Nat.ne_of_lt lb)
          · have := List.mem_singleton.mp hb
            rw [sz1] at this
            exact absurd this (Nat.ne_of_lt (Nat.lt_succ_of_lt lb))
        · exact ⟨⟨_, Heap.get?_push_size _ rfl, rfl, rfl⟩, il1.push _⟩

      · cases r2 with
        | error _ => exact hr2
        | ok fl2 =>
          cases fl2 with
          | ret r =>
            obtain ⟨rfl, h', tk, D, l, rfl, T, ml, ll, kp⟩ := hr2
            repeat (any_goals (first | assumption | wp_step))
            exact q _ _ _ _ T ml ll kp
          | _ => exact hr2.elim
    | _ => exact hr.elim
end
theorem same_perm : ∀ {l m : List Str}, l.Nodup → (∀ x ∈ l, x ∈ m) → m.length = l.length → l.Perm m
  | [], [], _, _, _ => .refl _
  | [], _ :: _, _, _, e => by simp at e
  | x :: l, m, nd, sub, e => by
    obtain ⟨n1, n2⟩ := List.nodup_cons.mp nd
    have hx := sub x List.mem_cons_self
    refine (List.Perm.cons x (same_perm n2 (fun y hy => ?_) ?_)).trans (List.perm_cons_erase hx).symm
    · exact (List.mem_erase_of_ne (fun (z : y = x) => n1 (by rw [← z]; exact hy))).mpr (sub y (List.mem_cons_of_mem _ hy))
    · rw [List.length_erase_of_mem hx, e, List.length_cons]; rfl
theorem txS_vals {P : Program} {w : World} {h : Heap} {S : Addr} {D : SD} {l : List Str} (T : TxS P w h S D l) : (∀ v ∈ D.1.toList.map (·.2), ∃ x t, v = .str x t) ∧ ((D.1.toList.map (·.2)).map PyProof.Rows.strOf).Perm l := by
  have isS : ∀ e ∈ D.1.toList, ∃ x t, e.2 = .str x t := fun e he => by
    obtain ⟨⟨k, h1, _⟩, _⟩ := T.ok.el e he
    obtain ⟨t, z⟩ := Value.isStrOf_shape (x := k) (v := e.2) h1
    exact ⟨k, t, z⟩
  refine ⟨fun v hv => ?_, (same_perm T.nd (fun x hx => ?_) ?_).symm⟩
  · obtain ⟨e, he, rfl⟩ := List.mem_map.mp hv
    exact isS e he
  · obtain ⟨e, he, z⟩ := (T.ok.mem x).mp hx
    obtain ⟨t, z'⟩ := Value.isStrOf_shape (x := x) (v := e.2) z
    rw [List.map_map]
    exact List.mem_map.mpr ⟨e, he, by show PyProof.Rows.strOf e.2 = x; rw [z']; rfl⟩
  · rw [List.length_map, List.length_map, Array.length_toList, T.ok.sz]
section
variable {P : Program} {w : World} {A : Around} {E : Value → Shared → Prop} {s : Shared}
/-- sorted(S), S a set of texts -/
theorem sorted_txts {S : Addr} {D : SD} {l : List Str} {Q : Value → Shared → Prop} (T : TxS P w s.heap S D l) (hd : A.handled = none) (few : l.length < 64)
    (q : ∀ (s1 : Shared) (p : Addr) (out : Array Value) (c : Nat) (ys : List Str), (∀ b o, s.heap.get? b = some o → s1.heap.get? b = some o) → s1.gens = s.gens → s1.os = s.os → s.heap.objs.size ≤ p → s1.heap.get? p = some (seqObj "list" out c) →
      PyProof.Rows.StrsAre out.toList ys → ys.Perm l → PyProof.Rows.sortedS ys = true → Q (.ref p) s1) : wpAny (model P w) A (call (.builtin "sorted") [.ref S]) Q E s := by
  obtain ⟨isS, pml⟩ := txS_vals T
  obtain ⟨es, ep, t⟩ := D
  have esz : es.size = l.length := T.ok.sz
  refine Calls.call_function_entry PyProof.Rows.kind_sorted PyProof.Rows.plain_sorted PyProof.Rows.entry_sorted (PyProof.Rows.args_sorted1 _) ?_
  unfold Builtin.«sorted»; refine wpAny_bind (m := checkCount "sorted" 1 1 _) (wpAny_pure ?_)
  refine wpAny_bind (collect_set (A := A.in1) hd ⟨_, T.lies, rfl, rfl⟩ T.ok.fit (show es.size < scanBound by unfold scanBound; omega) T.ris T.led fun s1 vs kp sz gg oo pm => ?_)
  have vl : vs.length = l.length := by rw [pm.length_eq, List.length_map, Array.length_toList]; exact esz
  have ar : PyProof.Rows.StrsAre vs (vs.map PyProof.Rows.strOf) := PyProof.Rows.strsAre_map vs fun v hv => isS v (pm.mem_iff.mp hv)
  refine wpAny_bind (wpAny_newList ?_ (by rw [vl, sizeLine_eq]; omega))
  have at1 : (s1.heap.push (seqObj "list" vs.toArray 0)).get? s1.heap.objs.size = some (seqObj "list" vs.toArray 0) := Heap.get?_push_size _ rfl
  refine wpAny_bind (wpAny_holding (wpAny_call_entry PyProof.Rows.slot_list_sort ⟨_, at1, rfl⟩ PyProof.Rows.entry_list_sort (list_sort_treeK strKind_oneLt at1 ar.keysOf (fun v1 v2 rest e => keyKind_strs (by rw [← e]; exact ar)) (by rw [vl]; exact few) fun st2 hp hs => ⟨_, rfl, ?_⟩) (PyProof.Rows.args_list_sort _)))
  obtain ⟨ys, g1, g2, g3⟩ := PyProof.Rows.sorted_out_str ar hp hs
  obtain ⟨c, hc⟩ := PyProof.Rows.sortedHeap_at (vs := vs) (out := (arrOf st2).map (·.2)) at1
  refine wpAny_pure ⟨_, rfl, q _ s1.heap.objs.size _ c ys (fun b o z => ?_) gg oo (Nat.le_of_not_lt fun z => ?_) hc g1 (g2.trans ((pm.map _).trans pml)) g3⟩
  · have lb := Heap.lt_size (kp b o z)
    rw [PyProof.Rows.sortedHeap_old (Nat.ne_of_lt lb) (by rw [size_push']; exact Nat.lt_succ_of_lt lb)]; exact Heap.get?_push_of_some _ (kp b o z)
  · exact absurd z (Nat.not_lt.mpr sz)
end
section
variable {X : Cx} {W : WX} {a : Expr} {ma : ME0} {pos : Pos}
def tSset (K : PySem.W.Frag) (ta : TE) : TE := fun σ H Q => ta σ H fun x H1 => ∃ (n : Addr) (xs : List Str), x = V.ref n ∧ SqL K H1 n (xs.map V.str) ∧ xs.length < 64 ∧ ∀ (ys l : List Str) (p : Addr), l.Nodup → (∀ x, x ∈ l ↔ x ∈ xs) → ys.Perm l → PyProof.Rows.sortedS ys = true → H1 p = none → Q (.ref p) (upd H1 p (.lst (ys.map V.str)))
theorem pe_sset {ta : TE} {p p2 q : Pos} (calm : X.calm = true) (g1 : Gl X "sorted") (m1 : X.mg "sorted" = none) (g2 : Gl X "set") (m2 : X.mg "set" = none) (ha : PE X a ta) (na : starEach [a] X.env = (false, eval a X.env) :: starEach [] X.env) :
    PE X (.Call (.Name "sorted" p) [.Call (.Name "set" p2) [a] [] q] [] pos) (tSset X.K ta) := by
  refine ⟨fun pins s σ H Q I h => ?_⟩
  refine Call_ (ld_blt I g1 m1 PyProof.Rows.boot_sorted (PyProof.Rows.callWith_builtin1 (PyProof.Rows.args_cons ?_ rfl) rfl rfl))
  refine Call_ (ld_blt I g2 m2 PyProof.Rows.boot_set (PyProof.Rows.callWith_type1 (PyProof.Rows.args_cons (thn (ha.run pins s σ H _ I h) fun v s1 ⟨x, H1, I1, r1, q1⟩ => PyProof.Rows.args_nil ?_) na) na rfl))
  obtain ⟨n, xs, rfl, sq, few, q1⟩ := q1
  cases r1
  obtain ⟨its, rv, pl, _⟩ := I1.list sq
  refine set_txts (I1.ok.hd calm) pl.isList (xs := xs) (by simpa using rv.strs) few fun h' tk D l T ml ll kp => PyProof.Rows.args_nil ?_
  have I2 : Inv X pins σ H1 { s1 with heap := h', toks := tk } := I1.kept fun b o e => kp b o e
  refine sorted_txts T (I2.ok.hd calm) (by omega) fun s3 p3 out c ys k g o hp hg ar pm srt => ?_
  have len : (ys.map V.str).length ≤ sizeLine := by rw [List.length_map, pm.length_eq, sizeLine_eq]; omega
  have fr : H1 p3 = none := I2.hok.fresh hp
  have J : Inv X pins σ (upd H1 p3 (.lst (ys.map V.str))) { s3 with heap := s3.heap, gens := s3.gens, drawn := s3.drawn, toks := s3.toks } := by
    have J0 := I2.call (h' := s3.heap) (g' := s3.gens) (d' := s3.drawn) (t' := s3.toks) (ch := []) (Un.laid k hp fr) (I2.hok.laid k hp (show ObjOk X.prog X.w (upd H1 p3 (.lst (ys.map V.str))) s3.heap p3 (.lst (ys.map V.str)) from ⟨len, out.toList, c, vals_of_strs ar, hg⟩)) (by rw [g]; exact I2.bare) (fun _ z => nomatch z)
    cases s3
    cases o
    exact J0
  exact ⟨.ref p3, _, J, rfl, q1 ys l p3 T.nd ml pm srt fr⟩
def uniq : List Str → List Str
  | [] => []
  | x :: r => if r.contains x = true then uniq r else x :: uniq r
theorem mem_uniq : ∀ {xs : List Str} {x : Str}, x ∈ uniq xs ↔ x ∈ xs
  | [], x => Iff.rfl
  | y :: r, x => by
    unfold uniq
    split
    · rename_i h
      rw [mem_uniq, List.mem_cons]
      exact ⟨.inr, fun z => z.elim (fun z => z ▸ List.contains_iff_mem.mp h) id⟩
    · rw [List.mem_cons, mem_uniq, List.mem_cons]
theorem nodup_uniq : ∀ xs : List Str, (uniq xs).Nodup
  | [] => .nil
  | y :: r => by
    unfold uniq
    split
    · exact nodup_uniq r
    · rename_i h
      exact List.nodup_cons.mpr ⟨fun z => h (List.contains_iff_mem.mpr (mem_uniq.mp z)), nodup_uniq r⟩
theorem perm_nodup {l m : List Str} (h1 : l.Nodup) (h2 : m.Nodup) (h : ∀ x, x ∈ l ↔ x ∈ m) : l.Perm m := by
  induction l generalizing m with
  | nil =>
    cases m with
    | nil => exact .refl _
    | cons y m => exact absurd ((h y).mpr List.mem_cons_self) List.not_mem_nil
  | cons x l ih =>
    obtain ⟨n1, n2⟩ := List.nodup_cons.mp h1
    have hx := (h x).mp List.mem_cons_self
    refine (List.Perm.cons x (ih n2 (h2.erase x) fun y => ?_)).trans (List.perm_cons_erase hx).symm
    rw [h2.mem_erase_iff]
    constructor
    · exact fun hy => ⟨fun z => n1 (z ▸ hy), (h y).mp (List.mem_cons_of_mem _ hy)⟩
    · rintro ⟨ne, hy⟩
      exact (List.mem_cons.mp ((h y).mpr hy)).resolve_left ne
def txts? : List D → Option (List Str)
  | [] => some []
  | .str x :: r => (txts? r).map (x :: ·)
  | _ :: _ => none
theorem txts_ok {K : PySem.W.Frag} {p : List Addr} {H : Hp} : ∀ {ds : List D} {xs : List Str} {vs : List V}, txts? ds = some xs → Dens K p H vs ds → vs = xs.map V.str
  | [], xs, vs, e, h => by
    cases h
    cases e
    rfl
  | d :: ds, xs, vs, e, h => by
    cases h with
    | cons h1 h2 =>
      unfold txts? at e
      split at e
      · cases ‹_ :: _ = []›
      · rename_i x r q
        cases q
        cases e2 : txts? ds with
        | none => rw [e2] at e; cases e
        | some ms =>
          rw [e2] at e
          cases e
          rw [txts_ok e2 h2, inv_str h1]
          rfl
      · cases e
theorem txts_map : ∀ xs : List Str, txts? (xs.map D.str) = some xs
  | [] => rfl
  | x :: r => by
    show (txts? (r.map D.str)).map (x :: ·) = _
    rw [txts_map r]
    rfl
def dSset (x : D) (G : Gp) : R D := match x with
  | .ref n => (match G[n]? with
    | some (.lst ds) => (match txts? ds with
      | some xs => if xs.length < 64 then .ok (.ref G.length) (G ++ [.lst ((sortS (uniq xs)).map .str)]) else .bad
      | none => .bad)
    | _ => .bad)
  | _ => .bad
def mSset (a : ME0) : ME0 := fun e G => (a e G).bind fun x G => dSset x G
theorem se_sset {p1 p2 pos2 : Pos} (hc : X.calm = true) (hgL : Gl X "sorted") (hmL : X.mg "sorted" = none) (hgS : Gl X "set") (hmS : X.mg "set" = none) (ha : SE X W a ma) (na : starEach [a] X.env = (false, eval a X.env) :: starEach [] X.env) :
    SE X W (.Call (.Name "sorted" p1) [.Call (.Name "set" p2) [a] [] pos2] [] pos) (mSset ma) := by
  refine pe_imp (pe_sset hc hgL hmL hgS hmS ha na) fun σ H Q ⟨p, G, e, rl, ev, h⟩ => ⟨p, G, e, rl, ev, h.bind fun x G1 q H1 v pr t r1 dv h1 => ?_⟩
  unfold dSset at h1
  split at h1
  · rename_i n
    obtain ⟨b, rfl, hb⟩ := inv_ref dv
    split at h1
    · rename_i ds g
      split at h1
      · rename_i xs hxs2
        split at h1
        · rename_i few
          obtain ⟨vs, hl, hxs⟩ := r1.lst hb g
          have e1 := txts_ok hxs2 hxs
          subst e1
          refine ⟨b, xs, rfl, .inl (.inl hl), few, fun ys l p3 nd ml pm srt fr => ?_⟩
          have e2 : ys = sortS (uniq xs) := sortS_unique (pm.trans (perm_nodup nd (nodup_uniq xs) fun x => (ml x).trans mem_uniq.symm)) (sortedS_pw srt)
          subst e2
          exact co_new r1 fr (dens_strs _) h1
        · exact co_bad h1
      · exact co_bad h1
    · exact co_bad h1
  · exact co_bad h1
end
end Mw
namespace Mw
open PySem L2
open PyProof.Rows hiding St
inductive Bop where
  | add | sub | mul | mod | div | pow | rep | addS
def Bop.op : Bop → Operator
  | .add => .Add | .sub => .Sub | .mul => .Mult | .mod => .Mod | .div => .FloorDiv | .pow => .Pow | .rep => .Mult | .addS => .Add
@[simp] def Bop.f : Bop → D → D → Gp → R D
  | .add => dAdd | .sub => dSub | .mul => dMul | .mod => dMod | .div => dDiv | .pow => dPow | .rep => dRepL | .addS => dAddS
inductive Blt where
  | len | max | min | int | list | tuple | dict | sorted | maxL | minL | sum
def Blt.nm : Blt → Str
  | .len => "len" | .max => "max" | .min => "min" | .int => "int" | .list => "list" | .tuple => "tuple" | .dict => "dict" | .sorted => "sorted" | .maxL => "max" | .minL => "min" | .sum => "sum"
@[simp] def Blt.f : Blt → FM
  | .len => fLen | .max => fMax | .min => fMin | .int => fInt | .list => fList | .tuple => fTuple | .dict => fDict | .sorted => fSorted | .maxL => fMaxL | .minL => fMinL | .sum => fSum
mutual
inductive ME where
  | var (i : Nat) | non | bl (b : Bool) | int (i : Int) | str (x : Str) | gint (x : Str) (i : Int) | gstr (x y : Str)
  | bin (o : Bop) (a b : ME) | neg (a : ME) | cmp (o : Cop) (a b : ME) | chain (o o' : Cop) (a b c : ME)
  | notE (a : ME) | andE (es : MEs) | orE (es : MEs) | ifE (c a b : ME)
  | tup (es : MEs) | lst (es : MEs) | ix (a b : ME) | sl (a : ME) (lo hi : MO) | fld (f : Nat) (a : ME)
  | isi (t : Ty) (a : ME) | blt (b : Blt) (a : ME) (es : MEs) | call (f : Nat) (es : MEs) | meth (f : Nat) (o : ME) (es : MEs) | rev (a c : ME) | make (f : Nat) (es : MEs)
  | app (o a : ME) | get2 (o a b : ME) | pop1 (o a : ME) | pop2 (o a b : ME) | sitems (o : ME)
  | tabIn (x : Str) (kvs : List (Str × Int)) (a : ME) | tabAt (x : Str) (kvs : List (Str × Int)) (a : ME) | disp (ks : List Str) (es : MEs)
  | lc (elt : ME) (t : Tg) (it : MIt) (tst : MO) (own : List (Str × Nat))
  | isx (h : Option Nat) (a : ME) | isi2 (t u : Ty) (a : ME) | idx (o a : ME) | lrg (a : ME) | lset (a : ME) | six (a b : ME) | sset (a : ME)
inductive MEs where
  | nil | cons (a : ME) (r : MEs)
inductive MO where
  | none | some (a : ME)
inductive MIt where
  | val (a : ME) | range1 (a : ME) | range2 (a b : ME) | enum (a : ME)
end
abbrev MT0 := En → Gp → R Bool
@[simp] def pl (m : ME0) : ME0 × MT0 := (m, mTru m)
@[simp] def mNotV (a : ME0) : ME0 := fun e G => (a e G).bind fun x G => (dTru x G).bind fun b G => .ok (.bl (!b)) G
structure Fns where
  F : Nat → FM
  ar : Nat → Nat
  ex : Option (Addr × Nat)
mutual
@[simp] def eP (Γ : Fns) : ME → ME0 × MT0
  | .var i => pl (mVar i)
  | .non => pl (mC .non)
  | .bl b => pl (mC (.bl b))
  | .int i => pl (mC (.int i))
  | .str x => pl (mC (.str x))
  | .gint _ i => pl (mC (.int i))
  | .gstr _ y => pl (mC (.str y))
  | .bin o a b => pl (mBin o.f (eP Γ a).1 (eP Γ b).1)
  | .neg a => pl (mNeg (eP Γ a).1)
  | .cmp o a b => (mOfB (mCmpB o.f (eP Γ a).1 (eP Γ b).1), mCmpB o.f (eP Γ a).1 (eP Γ b).1)
  | .chain o o' a b c => (mChain o.f o'.f (eP Γ a).1 (eP Γ b).1 (eP Γ c).1, mChainT o.f o'.f (eP Γ a).1 (eP Γ b).1 (eP Γ c).1)
  | .notE a => (mNotV (eP Γ a).1, mNotT (eP Γ a).2)
  | .andE es => eAnd Γ es
  | .orE es => eOr Γ es
  | .ifE c a b => (mIf (eP Γ c).2 (eP Γ a).1 (eP Γ b).1, fun _ _ => .bad)
  | .tup es => pl (mTup (eA Γ es))
  | .lst es => pl (mLst (eA Γ es))
  | .ix a b => pl (mBin dIx (eP Γ a).1 (eP Γ b).1)
  | .sl a lo hi => pl (mSl (eP Γ a).1 (eO Γ lo) (eO Γ hi))
  | .fld f a => pl (mFld f (eP Γ a).1)
  | .isi t a => (mOfB (mIsi t (eP Γ a).1), mTru (mOfB (mIsi t (eP Γ a).1)))
  | .blt b a es => pl (mCall b.f (maCons (eP Γ a).1 (eA Γ es)))
  | .call f es => pl (mCallF (Γ.ar f) (Γ.F f) (eA Γ es))
  | .meth f o es => pl (mMeth (Γ.ar f) (Γ.F f) (eP Γ o).1 (eA Γ es))
  | .rev a c => pl (mRev (eP Γ a).1 (eP Γ c).1)
  | .make f es => pl (mMake (Γ.ar f) (Γ.F f) (eA Γ es))
  | .app o a => pl (mApp (eP Γ o).1 (eP Γ a).1)
  | .get2 o a b => pl (mGet2 (eP Γ o).1 (eP Γ a).1 (eP Γ b).1)
  | .pop1 o a => pl (mPop1 (eP Γ o).1 (eP Γ a).1)
  | .pop2 o a b => pl (mPop2 (eP Γ o).1 (eP Γ a).1 (eP Γ b).1)
  | .sitems o => pl (mSItems (eP Γ o).1)
  | .tabIn _ kvs a => (mOfB (mTabIn kvs (eP Γ a).1), mTabIn kvs (eP Γ a).1)
  | .tabAt _ kvs a => pl (mTabAt kvs (eP Γ a).1)
  | .disp ks es => pl (mDisp ks (eA Γ es))
  | .lc elt t it tst own => pl (mLc t (eI Γ it) (eTst Γ tst) (eP Γ elt).1 (own.map (·.2)))
  | .isx h a => (mOfB (mIsx Γ.ex h (eP Γ a).1), mTru (mOfB (mIsx Γ.ex h (eP Γ a).1)))
  | .isi2 t u a => (mOfB (mIsi2 t u (eP Γ a).1), mTru (mOfB (mIsi2 t u (eP Γ a).1)))
  | .idx o a => pl (mIdx (eP Γ o).1 (eP Γ a).1)
  | .lrg a => pl (mLr (eP Γ a).1)
  | .lset a => pl (mLset (eP Γ a).1)
  | .six a b => pl (mBin dSix (eP Γ a).1 (eP Γ b).1)
  | .sset a => pl (mSset (eP Γ a).1)
@[simp] def eA (Γ : Fns) : MEs → MA0
  | .nil => maNil
  | .cons a r => maCons (eP Γ a).1 (eA Γ r)
@[simp] def eAnd (Γ : Fns) : MEs → ME0 × MT0
  | .nil => (fun _ _ => .bad, fun _ _ => .bad)
  | .cons a r => (match r with
    | .nil => eP Γ a
    | .cons _ _ => (mAndV (eP Γ a).1 (eAnd Γ r).1, mAndT (eP Γ a).2 (eAnd Γ r).2))
@[simp] def eOr (Γ : Fns) : MEs → ME0 × MT0
  | .nil => (fun _ _ => .bad, fun _ _ => .bad)
  | .cons a r => (match r with
    | .nil => eP Γ a
    | .cons _ _ => (mOrV (eP Γ a).1 (eOr Γ r).1, mOrT (eP Γ a).2 (eOr Γ r).2))
@[simp] def eO (Γ : Fns) : MO → Option ME0
  | .none => none
  | .some a => some (eP Γ a).1
@[simp] def eTst (Γ : Fns) : MO → MT0
  | .none => mYes
  | .some a => (eP Γ a).2
@[simp] def eI (Γ : Fns) : MIt → MI0
  | .val a => miVal (eP Γ a).1
  | .range1 a => miRange1 (maCons (eP Γ a).1 maNil)
  | .range2 a b => miRange2 (maCons (eP Γ a).1 (maCons (eP Γ b).1 maNil))
  | .enum a => miEnum (eP Γ a).1
end
def visB (sc : Scope) (x : Str) : Bool := match sc.names.lookup x with
  | some .local => true
  | some .cell => true
  | some .free => true
  | _ => false
def locB (sc : Scope) (x : Str) : Bool := match sc.names.lookup x with
  | some .local => true
  | some .cell => true
  | _ => false
def glB (sc : Scope) (x : Str) : Bool := match sc.names.lookup x with
  | some .globalImplicit => true
  | _ => false
def okN (x : Str) : Bool := !(x == ("__debug__" : Str)) && (!(x == ("__classdict__" : Str)) && !decide (x = "__name__"))
/-- no star, no slice, no display of a set, no comprehension of other kinds -/
def plainB : Expr → Bool
  | .BoolOp .. => true
  | .BinOp .. => true
  | .UnaryOp .. => true
  | .IfExp .. => true
  | .ListComp .. => true
  | .Compare .. => true
  | .Call .. => true
  | .Constant .. => true
  | .Attribute .. => true
  | .Subscript .. => true
  | .Name .. => true
  | .List .. => true
  | .Tuple .. => true
  | .Dict .. => true
  | _ => false
def noLcB : Expr → Bool
  | .ListComp .. => false
  | _ => true
/-- a receiver -/
def rcvB : Expr → Bool
  | .Name .. => true
  | .Attribute .. => true
  | .Subscript .. => true
  | _ => false
theorem pl_star {e : Expr} (h : plainB e = true) (es : List Expr) (env : Env) : starEach (e :: es) env = (false, eval e env) :: starEach es env := by
  cases e <;> first | (cases h; done) | rfl
theorem pl_fold {e : Expr} (h : plainB e = true) (env : Env) (x : Value) : foldedSetIterable e env x = pure x := by
  cases e <;> first | (cases h; done) | rfl
theorem pl_marks {e : Expr} (h : plainB e = true) (op : CmpOp) : behindInMarks op e = false := by
  cases e <;> first | (cases h; done) | rfl
theorem pl_ix {e : Expr} (h : plainB e = true) : PlainIx e := by
  cases e <;> first | (cases h; done) | exact fun _ _ => rfl
theorem pl_swap {e : Expr} (h : plainB e = true) (h2 : noLcB e = true) (t : Option Expr) (l : Nat) (env : Env) : swapsWith e t l env = pure false := by
  cases e <;> first | (cases h; done) | (cases h2; done) | rfl
theorem pl_swapA {e : Expr} (h : plainB e = true) (o : Expr) (f : Str) (p : Pos) (l : Nat) (env : Env) : swapsWith e (some (.Attribute o f p)) l env = pure false := by
  cases e <;> first | (cases h; done) | rfl
theorem pl_swapS {e : Expr} (h : plainB e = true) (o i : Expr) (p : Pos) (l : Nat) (env : Env) : swapsWith e (some (.Subscript o i p)) l env = pure false := by
  cases e <;> first | (cases h; done) | rfl
theorem rc_base {e : Expr} (h : rcvB e = true) (f : Str) (env : Env) (w : Sem Value) : attributeBase e f env w = w := by
  cases e <;> first | (cases h; done) | rfl
theorem rc_plain {e : Expr} (h : rcvB e = true) : plainB e = true := by
  cases e <;> first | (cases h; done) | rfl
structure Ct where
  nm : Nat → Str
  fs : List Nat
  ms : List Nat
  bl : List Str
  gis : List (Str × Int)
  gss : List (Str × Str)
  xs : List Nat
  cls : Bool
  calm : Bool
  ini : List Nat
  tabs : List (Str × List (Str × Int))
  ix : Bool
  hot : Bool
def onName (z : Expr) (k : Str → Bool) : Bool := match z with
  | .Name x _ => k x
  | _ => false
theorem onName_inv {z : Expr} {k : Str → Bool} (h : onName z k = true) : ∃ (x : Str) (p : Pos), z = .Name x p ∧ k x = true := by
  unfold onName at h
  split at h
  · exact ⟨_, _, rfl, h⟩
  · cases h
def onConst (z : Expr) (k : Const → Bool) : Bool := match z with
  | .Constant c _ _ => k c
  | _ => false
theorem onConst_inv {z : Expr} {k : Const → Bool} (h : onConst z k = true) : ∃ (c : Const) (j : Nat) (p : Pos), z = .Constant c j p ∧ k c = true := by
  unfold onConst at h
  split at h
  · exact ⟨_, _, _, rfl, h⟩
  · cases h
def onBin (z : Expr) (k : Expr → Operator → Expr → Bool) : Bool := match z with
  | .BinOp a o b _ => k a o b
  | _ => false
theorem onBin_inv {z : Expr} {k : Expr → Operator → Expr → Bool} (h : onBin z k = true) : ∃ (a : Expr) (o : Operator) (b : Expr) (p : Pos), z = .BinOp a o b p ∧ k a o b = true := by
  unfold onBin at h
  split at h
  · exact ⟨_, _, _, _, rfl, h⟩
  · cases h
def onUn (z : Expr) (k : UnaryOp → Expr → Bool) : Bool := match z with
  | .UnaryOp o a _ => k o a
  | _ => false
theorem onUn_inv {z : Expr} {k : UnaryOp → Expr → Bool} (h : onUn z k = true) : ∃ (o : UnaryOp) (a : Expr) (p : Pos), z = .UnaryOp o a p ∧ k o a = true := by
  unfold onUn at h
  split at h
  · exact ⟨_, _, _, rfl, h⟩
  · cases h
def onCmp (z : Expr) (k : Expr → List CmpOp → List Expr → Bool) : Bool := match z with
  | .Compare a os bs _ => k a os bs
  | _ => false
theorem onCmp_inv {z : Expr} {k : Expr → List CmpOp → List Expr → Bool} (h : onCmp z k = true) : ∃ (a : Expr) (os : List CmpOp) (bs : List Expr) (p : Pos), z = .Compare a os bs p ∧ k a os bs = true := by
  unfold onCmp at h
  split at h
  · exact ⟨_, _, _, _, rfl, h⟩
  · cases h
def onBool (z : Expr) (k : BoolOp → List Expr → Bool) : Bool := match z with
  | .BoolOp o es _ => k o es
  | _ => false
theorem onBool_inv {z : Expr} {k : BoolOp → List Expr → Bool} (h : onBool z k = true) : ∃ (o : BoolOp) (es : List Expr) (p : Pos), z = .BoolOp o es p ∧ k o es = true := by
  unfold onBool at h
  split at h
  · exact ⟨_, _, _, rfl, h⟩
  · cases h
def onIf (z : Expr) (k : Expr → Expr → Expr → Bool) : Bool := match z with
  | .IfExp c a b _ => k c a b
  | _ => false
theorem onIf_inv {z : Expr} {k : Expr → Expr → Expr → Bool} (h : onIf z k = true) : ∃ (c a b : Expr) (p : Pos), z = .IfExp c a b p ∧ k c a b = true := by
  unfold onIf at h
  split at h
  · exact ⟨_, _, _, _, rfl, h⟩
  · cases h
def onTup (z : Expr) (k : List Expr → Bool) : Bool := match z with
  | .Tuple es _ _ => k es
  | _ => false
theorem onTup_inv {z : Expr} {k : List Expr → Bool} (h : onTup z k = true) : ∃ (es : List Expr) (j : Nat) (p : Pos), z = .Tuple es j p ∧ k es = true := by
  unfold onTup at h
  split at h
  · exact ⟨_, _, _, rfl, h⟩
  · cases h
def onList (z : Expr) (k : List Expr → Bool) : Bool := match z with
  | .List es _ => k es
  | _ => false
theorem onList_inv {z : Expr} {k : List Expr → Bool} (h : onList z k = true) : ∃ (es : List Expr) (p : Pos), z = .List es p ∧ k es = true := by
  unfold onList at h
  split at h
  · exact ⟨_, _, rfl, h⟩
  · cases h
def onSub (z : Expr) (k : Expr → Expr → Bool) : Bool := match z with
  | .Subscript a b _ => k a b
  | _ => false
theorem onSub_inv {z : Expr} {k : Expr → Expr → Bool} (h : onSub z k = true) : ∃ (a b : Expr) (p : Pos), z = .Subscript a b p ∧ k a b = true := by
  unfold onSub at h
  split at h
  · exact ⟨_, _, _, rfl, h⟩
  · cases h
def onAttr (z : Expr) (k : Expr → Str → Bool) : Bool := match z with
  | .Attribute a x _ => k a x
  | _ => false
theorem onAttr_inv {z : Expr} {k : Expr → Str → Bool} (h : onAttr z k = true) : ∃ (a : Expr) (x : Str) (p : Pos), z = .Attribute a x p ∧ k a x = true := by
  unfold onAttr at h
  split at h
  · exact ⟨_, _, _, rfl, h⟩
  · cases h
def onSlice (z : Expr) (k : Option Expr → Option Expr → Bool) : Bool := match z with
  | .Slice lo hi none _ => k lo hi
  | _ => false
theorem onSlice_inv {z : Expr} {k : Option Expr → Option Expr → Bool} (h : onSlice z k = true) : ∃ (lo hi : Option Expr) (p : Pos), z = .Slice lo hi none p ∧ k lo hi = true := by
  unfold onSlice at h
  split at h
  · exact ⟨_, _, _, rfl, h⟩
  · cases h
def onSlice3 (z : Expr) (k : Expr → Bool) : Bool := match z with
  | .Slice none none (some c) _ => k c
  | _ => false
theorem onSlice3_inv {z : Expr} {k : Expr → Bool} (h : onSlice3 z k = true) : ∃ (c : Expr) (p : Pos), z = .Slice none none (some c) p ∧ k c = true := by
  unfold onSlice3 at h
  split at h
  · exact ⟨_, _, rfl, h⟩
  · cases h
def onCallN (z : Expr) (k : Str → List Expr → Bool) : Bool := match z with
  | .Call (.Name x _) es [] _ => k x es
  | _ => false
theorem onCallN_inv {z : Expr} {k : Str → List Expr → Bool} (h : onCallN z k = true) : ∃ (x : Str) (p0 : Pos) (es : List Expr) (p : Pos), z = .Call (.Name x p0) es [] p ∧ k x es = true := by
  unfold onCallN at h
  split at h
  · exact ⟨_, _, _, _, rfl, h⟩
  · cases h
def onCallA (z : Expr) (k : Expr → Str → Pos → List Expr → Pos → Bool) : Bool := match z with
  | .Call (.Attribute o x ap) es [] p => k o x ap es p
  | _ => false
theorem onCallA_inv {z : Expr} {k : Expr → Str → Pos → List Expr → Pos → Bool} (h : onCallA z k = true) : ∃ (o : Expr) (x : Str) (ap : Pos) (es : List Expr) (p : Pos), z = .Call (.Attribute o x ap) es [] p ∧ k o x ap es p = true := by
  unfold onCallA at h
  split at h
  · exact ⟨_, _, _, _, _, rfl, h⟩
  · cases h
def onLc (z : Expr) (k : Expr → List Comprehension → Scope → Bool) : Bool := match z with
  | .ListComp e gs sc _ => k e gs sc
  | _ => false
theorem onLc_inv {z : Expr} {k : Expr → List Comprehension → Scope → Bool} (h : onLc z k = true) : ∃ (e : Expr) (gs : List Comprehension) (sc : Scope) (p : Pos), z = .ListComp e gs sc p ∧ k e gs sc = true := by
  unfold onLc at h
  split at h
  · exact ⟨_, _, _, _, rfl, h⟩
  · cases h
def on1 (z : List Expr) (k : Expr → Bool) : Bool := match z with
  | [a] => k a
  | _ => false
theorem on1_inv {z : List Expr} {k : Expr → Bool} (h : on1 z k = true) : ∃ (a : Expr), z = [a] ∧ k a = true := by
  unfold on1 at h
  split at h
  · exact ⟨_, rfl, h⟩
  · cases h
def on2 (z : List Expr) (k : Expr → Expr → Bool) : Bool := match z with
  | [a, b] => k a b
  | _ => false
theorem on2_inv {z : List Expr} {k : Expr → Expr → Bool} (h : on2 z k = true) : ∃ (a b : Expr), z = [a, b] ∧ k a b = true := by
  unfold on2 at h
  split at h
  · exact ⟨_, _, rfl, h⟩
  · cases h
def onC (z : List Expr) (k : Expr → List Expr → Bool) : Bool := match z with
  | a :: r => k a r
  | _ => false
theorem onC_inv {z : List Expr} {k : Expr → List Expr → Bool} (h : onC z k = true) : ∃ (a : Expr) (r : List Expr), z = a :: r ∧ k a r = true := by
  unfold onC at h
  split at h
  · exact ⟨_, _, rfl, h⟩
  · cases h
def onO1 (z : List CmpOp) (k : CmpOp → Bool) : Bool := match z with
  | [a] => k a
  | _ => false
theorem onO1_inv {z : List CmpOp} {k : CmpOp → Bool} (h : onO1 z k = true) : ∃ a, z = [a] ∧ k a = true := by
  unfold onO1 at h
  split at h
  · exact ⟨_, rfl, h⟩
  · cases h
def onO2 (z : List CmpOp) (k : CmpOp → CmpOp → Bool) : Bool := match z with
  | [a, b] => k a b
  | _ => false
theorem onO2_inv {z : List CmpOp} {k : CmpOp → CmpOp → Bool} (h : onO2 z k = true) : ∃ a b, z = [a, b] ∧ k a b = true := by
  unfold onO2 at h
  split at h
  · exact ⟨_, _, rfl, h⟩
  · cases h
def onG1 (z : List Comprehension) (k : Expr → Expr → List Expr → Bool) : Bool := match z with
  | [⟨t, i, f, 0⟩] => k t i f
  | _ => false
theorem onG1_inv {z : List Comprehension} {k : Expr → Expr → List Expr → Bool} (h : onG1 z k = true) : ∃ t i f, z = [⟨t, i, f, 0⟩] ∧ k t i f = true := by
  unfold onG1 at h
  split at h
  · exact ⟨_, _, _, rfl, h⟩
  · cases h
def onSome (z : Option Expr) (k : Expr → Bool) : Bool := match z with
  | some a => k a
  | none => false
theorem onSome_inv {z : Option Expr} {k : Expr → Bool} (h : onSome z k = true) : ∃ a, z = some a ∧ k a = true := by
  unfold onSome at h
  split at h
  · exact ⟨_, rfl, h⟩
  · cases h
def onDict (z : Expr) (k : List (Option Expr) → List Expr → Bool) : Bool := match z with
  | .Dict ks vs _ => k ks vs
  | _ => false
theorem onDict_inv {z : Expr} {k : List (Option Expr) → List Expr → Bool} (h : onDict z k = true) : ∃ (ks : List (Option Expr)) (vs : List Expr) (p : Pos), z = .Dict ks vs p ∧ k ks vs = true := by
  unfold onDict at h
  split at h
  · exact ⟨_, _, _, rfl, h⟩
  · cases h
def onKC (z : List (Option Expr)) (k : Str → List (Option Expr) → Bool) : Bool := match z with
  | some (.Constant (.str x) _ _) :: r => k x r
  | _ => false
theorem onKC_inv {z : List (Option Expr)} {k : Str → List (Option Expr) → Bool} (h : onKC z k = true) : ∃ (x : Str) (j : Nat) (p : Pos) (r : List (Option Expr)), z = some (.Constant (.str x) j p) :: r ∧ k x r = true := by
  unfold onKC at h
  split at h
  · exact ⟨_, _, _, _, rfl, h⟩
  · cases h
def mtKs : List Str → List (Option Expr) → Bool
  | [], z => z.isEmpty
  | k :: ks, z => onKC z fun x r => decide (x = k) && mtKs ks r
/-- pairs come to a tuple of names -/
def itOk : MIt → Expr → Bool
  | .enum _, tg => (match tg with
    | .Tuple .. => true
    | _ => false)
  | _, _ => true
def mtTs (N : List Str) : List Nat → Scope → List Expr → Bool
  | [], _, es => es.isEmpty
  | i :: is, sc, es => onC es fun a r => onName a fun x => decide (N[i]? = some x) && (locB sc x && mtTs N is sc r)
def mtT (N : List Str) : Tg → Scope → Expr → Bool
  | .nm i, sc, e => onName e fun x => decide (N[i]? = some x) && locB sc x
  | .tp is, sc, e => onTup e fun es => mtTs N is sc es
/-- the class asked for -/
def hOk (C : Ct) : Option Nat → Bool
  | some k => decide (k ∈ C.xs)
  | none => decide ((("ValueError" : Str)) ∈ C.bl)
mutual
def mtE (C : Ct) (N : List Str) : ME → Scope → Expr → Bool
  | .var i, sc, e => onName e fun x => decide (N[i]? = some x) && (visB sc x && okN x)
  | .non, _, e => onConst e fun c => decide (c = .none)
  | .bl b, _, e => onConst e fun c => decide (c = .bool b)
  | .int i, _, e => onConst e fun c => decide (c = .int i)
  | .str x, _, e => onConst e fun c => decide (c = .str x)
  | .gint x i, sc, e => onName e fun y => decide (y = x) && (glB sc x && (okN x && decide ((x, i) ∈ C.gis)))
  | .gstr x z, sc, e => onName e fun y => decide (y = x) && (glB sc x && (okN x && decide ((x, z) ∈ C.gss)))
  | .bin o a b, sc, e => onBin e fun a' o' b' => decide (o' = o.op) && (mtE C N a sc a' && mtE C N b sc b')
  | .neg a, sc, e => onUn e fun o a' => decide (o = .USub) && mtE C N a sc a'
  | .cmp o a b, sc, e => onCmp e fun a' os bs => onO1 os fun o' => on1 bs fun b' => decide (o' = o.op) && (mtE C N a sc a' && mtE C N b sc b')
  | .chain o q a b c, sc, e => onCmp e fun a' os bs => onO2 os fun o' q' => on2 bs fun b' c' => decide (o' = o.op) && (decide (q' = q.op) && (mtE C N a sc a' && (mtE C N b sc b' && mtE C N c sc c')))
  | .notE a, sc, e => onUn e fun o a' => decide (o = .Not) && mtE C N a sc a'
  | .andE es, sc, e => onBool e fun o es' => decide (o = .And) && mtEs C N es sc es'
  | .orE es, sc, e => onBool e fun o es' => decide (o = .Or) && mtEs C N es sc es'
  | .ifE c a b, sc, e => onIf e fun c' a' b' => mtE C N c sc c' && (mtE C N a sc a' && mtE C N b sc b')
  | .tup es, sc, e => onTup e fun es' => mtEs C N es sc es'
  | .lst es, sc, e => onList e fun es' => mtEs C N es sc es'
  | .ix a b, sc, e => onSub e fun a' b' => mtE C N a sc a' && mtE C N b sc b'
  | .sl a lo hi, sc, e => onSub e fun a' b' => onSlice b' fun lo' hi' => mtE C N a sc a' && (mtO C N lo sc lo' && mtO C N hi sc hi')
  | .fld f a, sc, e => onAttr e fun a' x => decide (x = fname f) && (decide (f < 8) && (C.cls && (rcvB a' && mtE C N a sc a')))
  | .isi t a, sc, e => onCallN e fun x es => on2 es fun a' b' => onName b' fun y => decide (x = "isinstance") && (decide (y = Str.ofString t.nm) && (glB sc "isinstance" && (glB sc (Str.ofString t.nm) && (decide ((("isinstance" : Str)) ∈ C.bl) && (decide ((Str.ofString t.nm) ∈ C.bl) && mtE C N a sc a')))))
  | .blt b a es, sc, e => onCallN e fun x es0 => onC es0 fun a' es' => C.calm && (decide (x = b.nm) && (glB sc b.nm && (decide (b.nm ∈ C.bl) && (mtE C N a sc a' && mtEs C N es sc es'))))
  | .call f es, sc, e => onCallN e fun x es' => C.calm && (decide (x = C.nm f) && (glB sc (C.nm f) && (okN (C.nm f) && (decide (f ∈ C.fs) && mtEs C N es sc es'))))
  | .rev a c, sc, e => onSub e fun a' b' => onSlice3 b' fun c' => mtE C N a sc a' && mtE C N c sc c'
  | .make f es, sc, e => onCallN e fun x es' => C.calm && (C.cls && (decide (x = cname) && (glB sc cname && (decide (f ∈ C.ini) && (!es'.isEmpty && mtEs C N es sc es')))))
  | .meth f o es, sc, e => onCallA e fun o' x ap es' p => C.calm && (decide (x = C.nm f) && (!isF (C.nm f) && (decide (f ∈ C.ms) && (C.cls && (rcvB o' && ((ap.endLine == p.line) && (decide (es'.length < 29) && (mtE C N o sc o' && mtEs C N es sc es'))))))))
  | .app o a, sc, e => onCallA e fun o' x ap es' p => on1 es' fun a' => decide (x = "append") && (rcvB o' && ((ap.endLine == p.line) && (mtE C N o sc o' && mtE C N a sc a')))
  | .get2 o a b, sc, e => onCallA e fun o' x ap es' p => on2 es' fun a' b' => decide (x = "get") && (rcvB o' && ((ap.endLine == p.line) && (mtE C N o sc o' && (mtE C N a sc a' && mtE C N b sc b'))))
  | .pop1 o a, sc, e => onCallA e fun o' x ap es' p => on1 es' fun a' => decide (x = "pop") && (rcvB o' && ((ap.endLine == p.line) && (mtE C N o sc o' && mtE C N a sc a')))
  | .pop2 o a b, sc, e => onCallA e fun o' x ap es' p => on2 es' fun a' b' => decide (x = "pop") && (rcvB o' && ((ap.endLine == p.line) && (mtE C N o sc o' && (mtE C N a sc a' && mtE C N b sc b'))))
  | .sitems o, sc, e => onCallN e fun s es' => on1 es' fun i => onCallA i fun o' x ap es2 cp => C.calm && (decide (s = "sorted") && (decide (x = "items") && (es2.isEmpty && (glB sc "sorted" && (decide ((("sorted" : Str)) ∈ C.bl) && (rcvB o' && ((ap.endLine == cp.line) && mtE C N o sc o')))))))
  | .tabIn x kvs a, sc, e => onCmp e fun a' os bs => onO1 os fun o => on1 bs fun b' => onName b' fun y => decide (o = .In) && (decide (y = x) && (glB sc x && (okN x && (decide ((x, kvs) ∈ C.tabs) && mtE C N a sc a'))))
  | .tabAt x kvs a, sc, e => onSub e fun b' a' => onName b' fun y => decide (y = x) && (glB sc x && (okN x && (decide ((x, kvs) ∈ C.tabs) && mtE C N a sc a')))
  | .disp ks es, sc, e => onDict e fun ks' es' => mtKs ks ks' && (decide (ks.length ≤ 15) && (decide (ks'.length = es'.length) && mtEs C N es sc es'))
  | .lc elt t it tst own, sc, e => onLc e fun elt' gs scope => onG1 gs fun tg' iter' ifs' => C.calm && (blkC N sc scope own && (t.slots.all (fun i => decide (i ∈ own.map (·.2))) && (mtT N t scope tg' && ((itOk it tg' && mtI C N it sc iter') && (mtIfs C N tst scope ifs' && mtE C N elt scope elt')))))
  | .isx h a, sc, e => onCallN e fun x es => on2 es fun a' b' => onName b' fun y => (!C.calm && C.hot) && (decide (x = "isinstance") && (decide (y = hname h) && (glB sc "isinstance" && (glB sc (hname h) && (decide ((("isinstance" : Str)) ∈ C.bl) && (hOk C h && mtE C N a sc a'))))))
  | .isi2 t u a, sc, e => onCallN e fun x es => on2 es fun a' b' => onTup b' fun cs => on2 cs fun c1 c2 => onName c1 fun y1 => onName c2 fun y2 => decide (x = "isinstance") && (decide (y1 = Str.ofString t.nm) && (decide (y2 = Str.ofString u.nm) && (glB sc "isinstance" && (glB sc (Str.ofString t.nm) && (glB sc (Str.ofString u.nm) && (decide ((("isinstance" : Str)) ∈ C.bl) && (decide ((Str.ofString t.nm) ∈ C.bl) && (decide ((Str.ofString u.nm) ∈ C.bl) && mtE C N a sc a'))))))))
  | .six a b, sc, e => onSub e fun a' b' => mtE C N a sc a' && mtE C N b sc b'
  | .idx o a, sc, e => onCallA e fun o' x ap es' p => on1 es' fun a' => decide (x = "index") && (rcvB o' && ((ap.endLine == p.line) && (mtE C N o sc o' && mtE C N a sc a')))
  | .lrg a, sc, e => onCallN e fun x es => on1 es fun r => onCallN r fun y es2 => on1 es2 fun a' => C.calm && (decide (x = "list") && (decide (y = "range") && (glB sc "list" && (glB sc "range" && (decide ((("list" : Str)) ∈ C.bl) && (decide ((("range" : Str)) ∈ C.bl) && mtE C N a sc a'))))))
  | .lset a, sc, e => onCallN e fun x es => on1 es fun r => onCallN r fun y es2 => on1 es2 fun a' => C.calm && (decide (x = "len") && (decide (y = "set") && (glB sc "len" && (glB sc "set" && (decide ((("len" : Str)) ∈ C.bl) && (decide ((("set" : Str)) ∈ C.bl) && mtE C N a sc a'))))))
  | .sset a, sc, e => onCallN e fun x es => on1 es fun r => onCallN r fun y es2 => on1 es2 fun a' => C.calm && (decide (x = "sorted") && (decide (y = "set") && (glB sc "sorted" && (glB sc "set" && (decide ((("sorted" : Str)) ∈ C.bl) && (decide ((("set" : Str)) ∈ C.bl) && mtE C N a sc a'))))))
def mtEs (C : Ct) (N : List Str) : MEs → Scope → List Expr → Bool
  | .nil, _, es => es.isEmpty
  | .cons a r, sc, es => onC es fun a' r' => mtE C N a sc a' && mtEs C N r sc r'
def mtO (C : Ct) (N : List Str) : MO → Scope → Option Expr → Bool
  | .none, _, e => e.isNone
  | .some a, sc, e => onSome e fun a' => mtE C N a sc a'
def mtIfs (C : Ct) (N : List Str) : MO → Scope → List Expr → Bool
  | .none, _, es => es.isEmpty
  | .some a, sc, es => on1 es fun a' => mtE C N a sc a'
def mtI (C : Ct) (N : List Str) : MIt → Scope → Expr → Bool
  | .val a, sc, e => mtE C N a sc e
  | .range1 a, sc, e => onCallN e fun x es => on1 es fun a' => decide (x = "range") && (glB sc "range" && (decide ((("range" : Str)) ∈ C.bl) && mtE C N a sc a'))
  | .range2 a b, sc, e => onCallN e fun x es => on2 es fun a' b' => decide (x = "range") && (glB sc "range" && (decide ((("range" : Str)) ∈ C.bl) && (mtE C N a sc a' && mtE C N b sc b')))
  | .enum a, sc, e => onCallN e fun x es => on1 es fun a' => decide (x = "enumerate") && (glB sc "enumerate" && (decide ((("enumerate" : Str)) ∈ C.bl) && mtE C N a sc a'))
end
end Mw
namespace Mw
open PySem L2
open PyProof.Rows hiding St
structure ScR (sc : Scope) (env : Env) : Prop where
  kind : env.scope.kind = .function
  gl : ∀ x, sc.names.lookup x = some .globalImplicit → env.scope.names.lookup x = some .globalImplicit
  lc : ∀ x, sc.names.lookup x = some .local → env.scope.names.lookup x = some .local
  ce : ∀ x, sc.names.lookup x = some .cell → env.scope.names.lookup x = some .cell
  fr : ∀ x, sc.names.lookup x = some .free → env.scope.names.lookup x = some .free ∨ env.scope.names.lookup x = some .cell
theorem lookup_relabel (f : Str × NameKind → Str × NameKind) (hf : ∀ y, (f y).1 = y.1) : ∀ (names : List (Str × NameKind)) (x : Str) (k : NameKind), names.lookup x = some k → ∃ k', (names.map f).lookup x = some k' ∧ k' = (f (x, k)).2
  | [], _, _, h => by simp at h
  | (n, k0) :: r, x, k, h => by
    rw [List.map_cons]
    by_cases hx : x = n
    · subst hx
      rw [List.lookup_cons, beq_self_eq_true] at h
      have hk : k0 = k := Option.some.inj h
      subst hk
      refine ⟨(f (x, k0)).2, ?_, rfl⟩
      have e : f (x, k0) = (x, (f (x, k0)).2) := by
        have := hf (x, k0)
        exact Prod.ext this rfl
      rw [e, List.lookup_cons, beq_self_eq_true]
    · have hb : (x == n) = false := beq_eq_false_iff_ne.mpr hx
      rw [List.lookup_cons, hb] at h
      obtain ⟨k', h1, h2⟩ := lookup_relabel f hf r x k h
      refine ⟨k', ?_, h2⟩
      have e : f (n, k0) = (n, (f (n, k0)).2) := Prod.ext (hf (n, k0)) rfl
      rw [e, List.lookup_cons, hb]
      exact h1
theorem ScR.blk {sc scope : Scope} {env : Env} (h : ScR sc env) (hk : scope.kind = .function) (cl : List (Str × Addr)) (C : Addr) : ScR scope (compEnvC scope cl C env) := by
  have key : ∀ x k, scope.names.lookup x = some k → ∃ k', (compEnvC scope cl C env).scope.names.lookup x = some k' ∧ (k' = k ∨ (k = .free ∧ k' = .cell)) := fun x k hx => by
    obtain ⟨k', h1, h2⟩ := lookup_relabel (fun (y : Str × NameKind) => if (y.2 == .free && env.scope.kind == .function && env.kindOf y.1 == some .cell) then (y.1, .cell) else (y.1, y.2)) (fun y => by split <;> rfl) scope.names x k hx
    refine ⟨k', h1, ?_⟩
    rw [h2]
    dsimp only
    split
    · rename_i hc
      rw [Bool.and_eq_true, Bool.and_eq_true] at hc
      exact .inr ⟨eq_of_beq hc.1.1, rfl⟩
    · exact .inl rfl
  refine ⟨hk, fun x hx => ?_, fun x hx => ?_, fun x hx => ?_, fun x hx => ?_⟩
  · obtain ⟨k', h1, h2 | h2⟩ := key x _ hx
    · rw [h1, h2]
    · exact nomatch h2.1
  · obtain ⟨k', h1, h2 | h2⟩ := key x _ hx
    · rw [h1, h2]
    · exact nomatch h2.1
  · obtain ⟨k', h1, h2 | h2⟩ := key x _ hx
    · rw [h1, h2]
    · exact nomatch h2.1
  · obtain ⟨k', h1, h2 | h2⟩ := key x _ hx
    · rw [h1, h2]; exact .inl rfl
    · rw [h1, h2.2]; exact .inr rfl
structure Fx (C : Ct) (Γ : Fns) (ps : Nat → List Str) (k : Nat) (P : Program) (w : World) (K : PySem.W.Frag) (mg : Str → Option Value) (base : Heap) : Prop where
  ar : ∀ f, Γ.ar f = (ps f).length
  fn : ∀ f ∈ C.fs, ∃ a fd, mg (C.nm f) = some (.ref a) ∧ PySem.W.keepIn K (.ref a) = true ∧ Binds K fd (ps f) [] ∧ FnOk P w K mg base (L2.CX P w) k a fd (ps f) (spM K (ps f).length (Γ.F f))
  me : ∀ f ∈ C.ms, ∃ a fd, Meth K (He.ga K cname) (C.nm f) a ∧ Binds K fd (ps f) [] ∧ FnOk P w K mg base (L2.CX P w) k a fd (ps f) (spM K (ps f).length (Γ.F f))
  ini : ∀ f ∈ C.ini, ∃ j a fd, j + 1 ≤ k ∧ Mk K (He.ga K cname) a ∧ Binds K fd (ps f) [] ∧ FnOk P w K mg base (L2.CX P w) j a fd (ps f) (spM K (ps f).length (Γ.F f))
  cg : C.cls = true → mg cname = some (.ref (He.ga K cname))
  bl : ∀ x ∈ C.bl, mg x = none
  gi : ∀ x i, (x, i) ∈ C.gis → ∃ t, mg x = some (.int i t)
  gs : ∀ x i, (x, i) ∈ C.gss → ∃ t, mg x = some (.str i t)
  xc : ∀ c ∈ C.xs, ExcF K mg c
  xm : ∀ c ∈ C.xs, ∀ h ∈ C.xs, PySem.W.exmOne K (.ref (He.ga K (xname c))) (.ref (He.ga K (xname h))) = some (exSub c h)
  cl : C.cls = true → Cls K (He.ga K cname) ∧ ∀ f, f < 8 → NoAttr K (He.ga K cname) (fname f)
  tb : ∀ x kvs, (x, kvs) ∈ C.tabs → TabF K w mg x kvs
  ix : C.ix = true → ∀ c ∈ C.xs, ExcC K (He.ga K (xname c)) ∧ PySem.W.kitOne K (.ref (He.ga K (xname c))) (.type "ValueError") = some true
structure Gd (C : Ct) (Γ : Fns) (ps : Nat → List Str) (k : Nat) (X : Cx) (W : WX) (N : List Str) (sc : Scope) : Prop where
  fx : Fx C Γ ps k X.prog X.w X.K X.mg X.base
  nN : X.N = N
  nd : N.Nodup
  sr : ScR sc X.env
  tk : Takes X W
  un : X.A.units + 65 < cLine
  calm : C.calm = true → X.calm = true ∧ Room k X.A
  fnc : ∀ x, sc.names.lookup x = some .cell → X.fn x = true
  ex : C.calm = false → C.hot = true → ∀ a c, Γ.ex = some (a, c) → IsX X C.xs a c
theorem ba {a b : Bool} (h : (a && b) = true) : a = true ∧ b = true := Bool.and_eq_true_iff.mp h
section
variable {C : Ct} {Γ : Fns} {ps : Nat → List Str} {k : Nat} {X : Cx} {W : WX} {N : List Str} {sc : Scope}
theorem Gd.vis (g : Gd C Γ ps k X W N sc) {x : Str} (h : visB sc x = true) : Vis X.env.scope x := by
  unfold visB at h
  split at h
  · rename_i hx; exact .inl (g.sr.lc x hx)
  · rename_i hx; exact .inr (.inl (g.sr.ce x hx))
  · rename_i hx
    rcases g.sr.fr x hx with z | z
    · exact .inr (.inr z)
    · exact .inr (.inl z)
  · cases h
theorem Gd.gl (g : Gd C Γ ps k X W N sc) {x : Str} (h : glB sc x = true) : Gl X x := by
  unfold glB at h
  split at h
  · rename_i hx; exact g.sr.gl x hx
  · cases h
theorem Gd.loc (g : Gd C Γ ps k X W N sc) {x : Str} (h : locB sc x = true) : Loc X.env.scope x ∧ (X.fn x = true ∨ X.env.scope.names.lookup x = some .local) := by
  unfold locB at h
  split at h
  · rename_i hx; exact ⟨.inl (g.sr.lc x hx), .inr (g.sr.lc x hx)⟩
  · rename_i hx; exact ⟨.inr (g.sr.ce x hx), .inl (g.fnc x hx)⟩
  · cases h
theorem okN_1 {x : Str} (h : okN x = true) : (x == ("__debug__" : Str)) = false ∧ (x == ("__classdict__" : Str)) = false ∧ x ≠ "__name__" := by
  unfold okN at h
  obtain ⟨h1, h2⟩ := ba h
  obtain ⟨h2, h3⟩ := ba h2
  simp only [Bool.not_eq_true'] at h1 h2 h3
  exact ⟨h1, h2, of_decide_eq_false h3⟩
theorem Gd.blk (g : Gd C Γ ps k X W N sc) (hcm : C.calm = true) {scope : Scope} (hk : scope.kind = .function) (s : Shared) (H : Hp) (cl : List (Str × Addr)) (Ca : Addr) (fp : List Addr) : Gd C Γ ps k (X.blk s H scope (compEnvC scope cl Ca X.env) fp) W0 N scope :=
  ⟨g.fx, g.nN, g.nd, g.sr.blk hk cl Ca, takes0, g.un, g.calm, fun x hx => by show (scope.names.lookup x == some .cell) = true; rw [hx]; rfl, fun z => by rw [hcm] at z; cases z⟩
theorem blkR {sc scope : Scope} {env : Env} {N : List Str} {own : List (Str × Nat)} (h : ScR sc env) (b : blkC N sc scope own = true) : BlkOk N env.scope scope own := by
  have q := blkOk_by b
  refine ⟨q.kind, q.uniq, q.ix, fun y hy e => ?_, q.own⟩
  rcases q.free y hy e with z | z
  · exact .inl (h.ce _ z)
  · rcases h.fr _ z with u | u
    · exact .inr u
    · exact .inl u
theorem pgsT (g : Gd C Γ ps k X W N sc) : ∀ (is : List Nat) (es : List Expr), mtTs N is sc es = true → PGs X es (gAll is) ∧ (assignEach es X.env).length = is.length ∧ (assignEach es X.env).findIdx? (·.1) = none
  | [], es, h => by
    cases es with
    | nil => exact ⟨pgs_nil, rfl, rfl⟩
    | cons _ _ => rw [mtTs] at h; cases h
  | i :: is, es, h => by
    rw [mtTs] at h
    obtain ⟨e, r, rfl, h⟩ := onC_inv h
    obtain ⟨x, p0, rfl, h⟩ := onName_inv h
    obtain ⟨h1, h2⟩ := ba h
    obtain ⟨h2, h3⟩ := ba h2
    obtain ⟨i1, i2, i3⟩ := pgsT g is r h3
    obtain ⟨l1, l2⟩ := g.loc h2
    refine ⟨pgs_cons (pg_name (by rw [g.nN]; exact g.nd) (by rw [g.nN]; exact of_decide_eq_true h1) l1 l2) i1 rfl, ?_, ?_⟩
    · show (assignEach r X.env).length + 1 = _
      rw [i2]
      rfl
    · have e : assignEach (.Name x p0 :: r) X.env = (false, assign (.Name x p0) X.env) :: assignEach r X.env := rfl
      rw [e, List.findIdx?_cons, i3]
      rfl
def gT (K : PySem.W.Frag) : Tg → TG
  | .nm i => gName i
  | .tp is => gTup K is.length (gAll is)
theorem gT_go {K : PySem.W.Frag} (t : Tg) : GoT K (gT K t) t := by
  cases t with
  | nm i => exact got_name
  | tp is => exact got_tup rfl
theorem pgT (g : Gd C Γ ps k X W N sc) (hc : C.calm = true) {t : Tg} {e : Expr} (h : mtT N t sc e = true) : PG X e (gT X.K t) ∧ (assignEach [e] X.env).map (·.2) = [assign e X.env] := by
  cases t with
  | nm i =>
    rw [mtT] at h
    obtain ⟨x, p0, rfl, h⟩ := onName_inv h
    obtain ⟨h1, h2⟩ := ba h
    obtain ⟨l1, l2⟩ := g.loc h2
    exact ⟨pg_name (by rw [g.nN]; exact g.nd) (by rw [g.nN]; exact of_decide_eq_true h1) l1 l2, rfl⟩
  | tp is =>
    rw [mtT] at h
    obtain ⟨es, j, p0, rfl, h⟩ := onTup_inv h
    obtain ⟨i1, i2, i3⟩ := pgsT g is _ h
    exact ⟨pg_tup (g.calm hc).1 i1 i2 i3, rfl⟩
theorem bop_ok (o : Bop) {a b : Expr} {ma mb : ME0} {pos : Pos} (ha : SE X W a ma) (hb : SE X W b mb) : SE X W (.BinOp a o.op b pos) (mBin o.f ma mb) := by
  cases o
  · exact se_add ha hb
  · exact se_sub ha hb
  · exact se_mul ha hb
  · exact se_mod ha hb
  · exact se_div ha hb
  · exact se_pow ha hb
  · exact se_rep ha hb
  · exact se_addS ha hb
theorem star_all {es : List Expr} (h : ∀ e ∈ es, plainB e = true) (env : Env) (pos : Pos) : (backTo pos (starEach es env)).any (·.1) = false ∧ (backTo pos (starEach es env)).all (fun x => !x.1) = true := by
  induction es with
  | nil => exact ⟨rfl, rfl⟩
  | cons e es ih =>
    rw [pl_star (h e (by simp)) es env]
    obtain ⟨i1, i2⟩ := ih fun z hz => h z (List.mem_cons_of_mem _ hz)
    exact ⟨i1, i2⟩
theorem blt_ok (hc : X.calm = true) (hu : X.A.units + 65 < cLine) (b : Blt) {a : Expr} {es : List Expr} {m : MA0} {p0 pos : Pos} (hg : Gl X b.nm) (hm : X.mg b.nm = none) (ha : SA X W (a :: es) m) (he : starEach (a :: es) X.env = (false, eval a X.env) :: starEach es X.env) (hpl : (backTo pos (starEach es X.env)).any (·.1) = false) :
    SE X W (.Call (.Name b.nm p0) (a :: es) [] pos) (mCall b.f m) := by
  cases b
  · exact se_cb ((call_len_seq.or call_len_str).or call_lenD) cb_len hg hm (by decide +kernel : bootBuiltins "len" = some (.builtin "len")) ha (by decide +kernel) (by decide +kernel) he hpl
  · exact se_cb (call_max2 hc) cb_max hg hm (by decide +kernel : bootBuiltins "max" = some (.builtin "max")) ha (by decide +kernel) (by decide +kernel) he hpl
  · exact se_cb (call_min2 hc) cb_min hg hm (by decide +kernel : bootBuiltins "min" = some (.builtin "min")) ha (by decide +kernel) (by decide +kernel) he hpl
  · exact se_cty call_int1 cb_int hg hm (by decide +kernel : bootBuiltins "int" = some (.type "int")) ha (by decide +kernel) (by decide +kernel) he hpl
  · exact se_cty call_list_of cb_list hg hm (by decide +kernel : bootBuiltins "list" = some (.type "list")) ha (by decide +kernel) (by decide +kernel) he hpl
  · exact se_cty call_tuple_of cb_tuple hg hm (by decide +kernel : bootBuiltins "tuple" = some (.type "tuple")) ha (by decide +kernel) (by decide +kernel) he hpl
  · exact se_cty (call_dictP hc) cb_dict hg hm (by decide +kernel : bootBuiltins "dict" = some (.type "dict")) ha (by decide +kernel) (by decide +kernel) he hpl
  · exact se_cb (cr_sortedI.or (call_sortedD hc)) cb_sorted hg hm (by decide +kernel : bootBuiltins "sorted" = some (.builtin "sorted")) ha (by decide +kernel) (by decide +kernel) he hpl
  · exact se_cb (call_maxL hc hu) cb_maxL hg hm (by decide +kernel : bootBuiltins "max" = some (.builtin "max")) ha (by decide +kernel) (by decide +kernel) he hpl
  · exact se_cb (call_minL hc hu) cb_minL hg hm (by decide +kernel : bootBuiltins "min" = some (.builtin "min")) ha (by decide +kernel) (by decide +kernel) he hpl
  · exact se_cb (cr_sum hc) cb_sum hg hm (by decide +kernel : bootBuiltins "sum" = some (.builtin "sum")) ha (by decide +kernel) (by decide +kernel) he hpl
theorem st_never {e : Expr} : ST X W e (fun _ _ => .bad) := ⟨fun pins s σ H Q I h => by
  obtain ⟨p, G, e, rl, ev, h⟩ := h
  exact h.elim⟩
abbrev Ok3 (X : Cx) (W : WX) (e : Expr) (m : ME0 × MT0) : Prop := plainB e = true ∧ SE X W e m.1 ∧ ST X W e m.2
theorem ok_pl {e : Expr} {m : ME0} (h1 : plainB e = true) (h2 : SE X W e m) (he : ∀ whole, isTrue e X.env whole = (do let v ← whole; standAt e.pos; holding [v] (truthy v))) : Ok3 X W e (pl m) := ⟨h1, h2, st_tru h2 he⟩
theorem mt_nil {ms : MEs} {es : List Expr} (h : mtEs C N ms sc es = true) (e : es = []) : eA Γ ms = maNil := by
  cases ms with
  | nil => rfl
  | cons a r => rw [mtEs] at h; subst e; cases h
theorem m1_ok {o a : Expr} {m : Str} {ap p : Pos} (ho : rcvB o = true) (ha : plainB a = true) (hl : (ap.endLine == p.line) = true) : M1 X o m ap a p := by
  have e : starEach [a] X.env = [(false, eval a X.env)] := pl_star ha [] X.env
  exact ⟨rc_base ho m X.env _, by rw [e]; rfl, hl, by rw [e]; rfl⟩
theorem m2_ok {o a b : Expr} {m : Str} {ap p : Pos} (ho : rcvB o = true) (ha : plainB a = true) (hb : plainB b = true) (hl : (ap.endLine == p.line) = true) : M2 X o m ap a b p := by
  have e : starEach [a, b] X.env = [(false, eval a X.env), (false, eval b X.env)] := (pl_star ha [b] X.env).trans (congrArg _ (pl_star hb [] X.env))
  exact ⟨rc_base ho m X.env _, by rw [e]; rfl, hl, by rw [e]; rfl⟩
theorem meth_ht {o : Expr} {m : Str} {ap p : Pos} {es : List Expr} (ho : rcvB o = true) (hl : (ap.endLine == p.line) = true) (hs : ∀ e ∈ es, plainB e = true) (hn : es.length < 29) :
    eval (.Call (.Attribute o m ap) es [] p) X.env = (do
      let ov ← eval o X.env
      standAt ap.atName
      let (f, first) ← holding [ov] (getMethod ov m (plainOf o X.env))
      callWith p f first (backTo p (starEach es X.env)) (backToKw p (keywordEach [] X.env))) := by
  have h1 : eval (.Call (.Attribute o m ap) es [] p) X.env = (do
      let ov ← attributeBase o m X.env (eval o X.env)
      standAt ap.atName
      methodCall o m ap p X.env ov (es.length + ([] : List Keyword).length) (backTo p (starEach es X.env)) (backToKw p (keywordEach [] X.env))) := rfl
  have hf : methodCallForm (es.length + ([] : List Keyword).length) (backTo p (starEach es X.env)) (backToKw p (keywordEach [] X.env)) = true := by
    show ((backTo p (starEach es X.env)).all (fun x => !x.1) && true && decide (es.length + 0 + 0 < 30)) = true
    rw [(star_all hs X.env p).2]
    simp
    omega
  rw [h1, rc_base ho m X.env]
  congr 1
  funext ov
  congr 1
  funext _
  exact mcall_line hf hl
abbrev Ok4 (X : Cx) (W : WX) (es : List Expr) (m : MA0) : Prop := (∀ e ∈ es, plainB e = true) ∧ SA X W es m
theorem mt_blt (g : Gd C Γ ps k X W N sc) (hc : C.calm = true) (b : Blt) {a : Expr} {es : List Expr} {m : MA0} {p0 pos : Pos} (hg : glB sc b.nm = true) (hm : b.nm ∈ C.bl) (h : Ok4 X W (a :: es) m) : SE X W (.Call (.Name b.nm p0) (a :: es) [] pos) (mCall b.f m) :=
  blt_ok (g.calm hc).1 g.un b (g.gl hg) (g.fx.bl _ hm) h.2 (pl_star (h.1 a (by simp)) es X.env) (star_all (fun e he => h.1 e (List.mem_cons_of_mem _ he)) X.env pos).1
theorem mt_call (g : Gd C Γ ps k X W N sc) (hc : C.calm = true) {f : Nat} {es : List Expr} {m : MA0} {p0 pos : Pos} (hg : glB sc (C.nm f) = true) (ho : okN (C.nm f) = true) (hf : f ∈ C.fs) (h : Ok4 X W es m) (h0 : es = [] → m = maNil) : SE X W (.Call (.Name (C.nm f) p0) es [] pos) (mCallF (Γ.ar f) (Γ.F f) m) := by
  obtain ⟨a, fd, e1, e2, e3, e4⟩ := g.fx.fn f hf
  rw [g.fx.ar f]
  cases es with
  | nil => rw [h0 rfl]; exact se_call0 g.tk e4 (g.calm hc).2 (g.gl hg) e1 e2 e3 (okN_1 ho).1
  | cons e es => exact se_call g.tk e4 (g.calm hc).2 (g.gl hg) e1 e2 e3 h.2 (okN_1 ho).1 (pl_star (h.1 e (by simp)) es X.env) (star_all (fun e he => h.1 e (List.mem_cons_of_mem _ he)) X.env pos).1
theorem mt_meth (g : Gd C Γ ps k X W N sc) (hc : C.calm = true) (hk : C.cls = true) {f : Nat} {o : Expr} {mo : ME0} {es : List Expr} {m : MA0} {ap pos : Pos} (hi : isF (C.nm f) = false) (hf : f ∈ C.ms) (hr : rcvB o = true) (hl : (ap.endLine == pos.line) = true) (hn : es.length < 29) (hmo : SE X W o mo) (h : Ok4 X W es m) (h0 : es = [] → m = maNil) :
    SE X W (.Call (.Attribute o (C.nm f) ap) es [] pos) (mMeth (Γ.ar f) (Γ.F f) mo m) := by
  obtain ⟨a, fd, e1, e2, e3⟩ := g.fx.me f hf
  rw [g.fx.ar f]
  cases es with
  | nil => rw [h0 rfl]; exact se_meth0 hi g.tk hmo (g.fx.cl hk).1 e1 e3 (g.calm hc).2 e2 (meth_ht hr hl h.1 hn)
  | cons e es => exact se_meth hi g.tk hmo (g.fx.cl hk).1 e1 e3 (g.calm hc).2 e2 h.2 (pl_star (h.1 e (by simp)) es X.env) (star_all (fun e he => h.1 e (List.mem_cons_of_mem _ he)) X.env pos).1 (meth_ht hr hl h.1 hn)
theorem mt_make (g : Gd C Γ ps k X W N sc) (hc : C.calm = true) (hk : C.cls = true) {f : Nat} {es : List Expr} {m : MA0} {p0 pos : Pos} (hg : glB sc cname = true) (hf : f ∈ C.ini) (hne : es.isEmpty = false) (h : Ok4 X W es m) : SE X W (.Call (.Name cname p0) es [] pos) (mMake (Γ.ar f) (Γ.F f) m) := by
  obtain ⟨j, a, fd, e0, e1, e2, e3⟩ := g.fx.ini f hf
  rw [g.fx.ar f]
  cases es with
  | nil => cases hne
  | cons e es => exact se_make g.tk e1 e3 ((g.calm hc).2.mono e0) (g.gl hg) (g.fx.cg hk) e2 h.2 (by decide) (pl_star (h.1 e (by simp)) es X.env) (star_all (fun e he => h.1 e (List.mem_cons_of_mem _ he)) X.env pos).1
theorem mtKs_inv : ∀ {ks : List Str} {ks' : List (Option Expr)}, mtKs ks ks' = true → ks'.all (·.isSome) = true ∧ ks'.length = ks.length ∧ True
  | [], ks', h => by
    rw [mtKs] at h
    rw [List.isEmpty_iff.mp h]
    exact ⟨rfl, rfl, trivial⟩
  | k :: ks, ks', h => by
    rw [mtKs] at h
    obtain ⟨x, j, p, r, rfl, h⟩ := onKC_inv h
    obtain ⟨h1, h2⟩ := ba h
    obtain ⟨i1, i2, _⟩ := mtKs_inv h2
    exact ⟨by rw [List.all_cons, i1]; rfl, by rw [List.length_cons, List.length_cons, i2], trivial⟩
theorem st_imp {e : Expr} {m m' : MT0} (h : ST X W e m) (q : m' = m) : ST X W e m' := q ▸ h
end
section
variable {C : Ct} {Γ : Fns} {ps : Nat → List Str} {k : Nat} {N : List Str}
mutual
theorem sdE : ∀ (me : ME) {X : Cx} {W : WX} {sc : Scope} {e : Expr}, Gd C Γ ps k X W N sc → mtE C N me sc e = true → Ok3 X W e (eP Γ me)
  | .var i, X, W, sc, e, g, h => by
    rw [mtE] at h
    obtain ⟨x, p, rfl, h⟩ := onName_inv h
    obtain ⟨h1, h⟩ := ba h
    obtain ⟨h2, h3⟩ := ba h
    exact ok_pl rfl (se_var (by rw [g.nN]; exact of_decide_eq_true h1) (g.vis h2) (okN_1 h3).1 (okN_1 h3).2.1) fun _ => rfl
  | .non, X, W, sc, e, g, h => by
    rw [mtE] at h
    obtain ⟨c, j, p, rfl, h⟩ := onConst_inv h
    obtain rfl := of_decide_eq_true h
    exact ok_pl rfl se_non fun _ => rfl
  | .bl b, X, W, sc, e, g, h => by
    rw [mtE] at h
    obtain ⟨c, j, p, rfl, h⟩ := onConst_inv h
    obtain rfl := of_decide_eq_true h
    exact ok_pl rfl se_bl fun _ => rfl
  | .int b, X, W, sc, e, g, h => by
    rw [mtE] at h
    obtain ⟨c, j, p, rfl, h⟩ := onConst_inv h
    obtain rfl := of_decide_eq_true h
    exact ok_pl rfl se_int fun _ => rfl
  | .str b, X, W, sc, e, g, h => by
    rw [mtE] at h
    obtain ⟨c, j, p, rfl, h⟩ := onConst_inv h
    obtain rfl := of_decide_eq_true h
    exact ok_pl rfl se_str fun _ => rfl
  | .gint x i, X, W, sc, e, g, h => by
    rw [mtE] at h
    obtain ⟨y, p, rfl, h⟩ := onName_inv h
    obtain ⟨h1, h⟩ := ba h
    obtain ⟨h2, h⟩ := ba h
    obtain ⟨h3, h4⟩ := ba h
    obtain rfl := of_decide_eq_true h1
    exact ok_pl rfl (se_gint (g.gl h2) (g.fx.gi _ _ (of_decide_eq_true h4)) (okN_1 h3).1) fun _ => rfl
  | .gstr x i, X, W, sc, e, g, h => by
    rw [mtE] at h
    obtain ⟨y, p, rfl, h⟩ := onName_inv h
    obtain ⟨h1, h⟩ := ba h
    obtain ⟨h2, h⟩ := ba h
    obtain ⟨h3, h4⟩ := ba h
    obtain rfl := of_decide_eq_true h1
    exact ok_pl rfl (se_gstr (g.gl h2) (g.fx.gs _ _ (of_decide_eq_true h4)) (okN_1 h3).1) fun _ => rfl
  | .bin o a b, X, W, sc, e, g, h => by
    rw [mtE] at h
    obtain ⟨a', o', b', p, rfl, h⟩ := onBin_inv h
    obtain ⟨h1, h⟩ := ba h
    obtain ⟨h2, h3⟩ := ba h
    obtain rfl := of_decide_eq_true h1
    exact ok_pl rfl (bop_ok o (sdE a g h2).2.1 (sdE b g h3).2.1) fun _ => rfl
  | .neg a, X, W, sc, e, g, h => by
    rw [mtE] at h
    obtain ⟨o, a', p, rfl, h⟩ := onUn_inv h
    obtain ⟨h1, h2⟩ := ba h
    obtain rfl := of_decide_eq_true h1
    exact ok_pl rfl (se_neg (sdE a g h2).2.1) fun _ => rfl
  | .cmp o a b, X, W, sc, e, g, h => by
    rw [mtE] at h
    obtain ⟨a', os, bs, p, rfl, h⟩ := onCmp_inv h
    obtain ⟨o', rfl, h⟩ := onO1_inv h
    obtain ⟨b', rfl, h⟩ := on1_inv h
    obtain ⟨h1, h⟩ := ba h
    obtain ⟨h2, h3⟩ := ba h
    obtain rfl := of_decide_eq_true h1
    have ib := sdE b g h3
    exact ⟨rfl, se_cop g.un o (sdE a g h2).2.1 ib.2.1 (pl_marks ib.1 _), st_cop g.un o (sdE a g h2).2.1 ib.2.1 (pl_marks ib.1 _)⟩
  | .chain o q a b c, X, W, sc, e, g, h => by
    rw [mtE] at h
    obtain ⟨a', os, bs, p, rfl, h⟩ := onCmp_inv h
    obtain ⟨o', q', rfl, h⟩ := onO2_inv h
    obtain ⟨b', c', rfl, h⟩ := on2_inv h
    obtain ⟨h1, h⟩ := ba h
    obtain ⟨h2, h⟩ := ba h
    obtain ⟨h3, h⟩ := ba h
    obtain ⟨h4, h5⟩ := ba h
    obtain rfl := of_decide_eq_true h1
    obtain rfl := of_decide_eq_true h2
    have ic := sdE c g h5
    exact ⟨rfl, se_chain g.un o q (sdE a g h3).2.1 (sdE b g h4).2.1 ic.2.1 (pl_marks ic.1 _), st_chain g.un o q (sdE a g h3).2.1 (sdE b g h4).2.1 ic.2.1 (pl_marks ic.1 _)⟩
  | .notE a, X, W, sc, e, g, h => by
    rw [mtE] at h
    obtain ⟨o, a', p, rfl, h⟩ := onUn_inv h
    obtain ⟨h1, h2⟩ := ba h
    obtain rfl := of_decide_eq_true h1
    exact ⟨rfl, se_notV (sdE a g h2).2.1, st_not (sdE a g h2).2.2⟩
  | .andE es, X, W, sc, e, g, h => by
    rw [mtE] at h
    obtain ⟨o, es', p, rfl, h⟩ := onBool_inv h
    obtain ⟨h1, h2⟩ := ba h
    obtain rfl := of_decide_eq_true h1
    exact ⟨rfl, (sdAnd es g h2 p).1, (sdAnd es g h2 p).2.pt⟩
  | .orE es, X, W, sc, e, g, h => by
    rw [mtE] at h
    obtain ⟨o, es', p, rfl, h⟩ := onBool_inv h
    obtain ⟨h1, h2⟩ := ba h
    obtain rfl := of_decide_eq_true h1
    exact ⟨rfl, (sdOr es g h2 p).1, (sdOr es g h2 p).2.pt⟩
  | .ifE c a b, X, W, sc, e, g, h => by
    rw [mtE] at h
    obtain ⟨c', a', b', p, rfl, h⟩ := onIf_inv h
    obtain ⟨h1, h⟩ := ba h
    obtain ⟨h2, h3⟩ := ba h
    exact ⟨rfl, se_if (sdE c g h1).2.2 (sdE a g h2).2.1 (sdE b g h3).2.1, st_never⟩
  | .tup es, X, W, sc, e, g, h => by
    rw [mtE] at h
    obtain ⟨es', j, p, rfl, h⟩ := onTup_inv h
    exact ok_pl rfl (se_tup (sdEs es g h).2) fun _ => rfl
  | .lst es, X, W, sc, e, g, h => by
    rw [mtE] at h
    obtain ⟨es', p, rfl, h⟩ := onList_inv h
    exact ok_pl rfl (se_lst (sdEs es g h).2) fun _ => rfl
  | .ix a b, X, W, sc, e, g, h => by
    rw [mtE] at h
    obtain ⟨a', b', p, rfl, h⟩ := onSub_inv h
    obtain ⟨h1, h2⟩ := ba h
    have ib := sdE b g h2
    exact ok_pl rfl (se_ix g.un (sdE a g h1).2.1 ib.2.1 (pl_ix ib.1)) fun _ => rfl
  | .sl a lo hi, X, W, sc, e, g, h => by
    rw [mtE] at h
    obtain ⟨a', b', p, rfl, h⟩ := onSub_inv h
    obtain ⟨lo', hi', p2, rfl, h⟩ := onSlice_inv h
    obtain ⟨h1, h⟩ := ba h
    obtain ⟨h2, h3⟩ := ba h
    exact ok_pl rfl (se_sl (sdE a g h1).2.1 (sdO lo g h2) (sdO hi g h3)) fun _ => rfl
  | .fld f a, X, W, sc, e, g, h => by
    rw [mtE] at h
    obtain ⟨a', x, p, rfl, h⟩ := onAttr_inv h
    obtain ⟨h1, h⟩ := ba h
    obtain ⟨h2, h⟩ := ba h
    obtain ⟨h3, h⟩ := ba h
    obtain ⟨h4, h5⟩ := ba h
    obtain rfl := of_decide_eq_true h1
    have hf := of_decide_eq_true h2
    exact ok_pl rfl (se_fld hf (g.fx.cl h3).1 ((g.fx.cl h3).2 f hf) (sdE a g h5).2.1 (rc_base h4 _ _ _)) fun _ => rfl
  | .isi t a, X, W, sc, e, g, h => by
    rw [mtE] at h
    obtain ⟨x, p0, es, p, rfl, h⟩ := onCallN_inv h
    obtain ⟨a', b', rfl, h⟩ := on2_inv h
    obtain ⟨y, p1, rfl, h⟩ := onName_inv h
    obtain ⟨h1, h⟩ := ba h
    obtain ⟨h2, h⟩ := ba h
    obtain ⟨h3, h⟩ := ba h
    obtain ⟨h4, h⟩ := ba h
    obtain ⟨h5, h⟩ := ba h
    obtain ⟨h6, h7⟩ := ba h
    obtain rfl := of_decide_eq_true h1
    obtain rfl := of_decide_eq_true h2
    have ia := sdE a g h7
    have q := se_isi (pos := p) (p1 := p0) (p2 := p1) ia.2.1 (g.gl h3) (g.fx.bl _ (of_decide_eq_true h5)) (g.gl h4) (g.fx.bl _ (of_decide_eq_true h6)) (pl_star ia.1 _ X.env)
    exact ⟨rfl, q, st_tru q fun _ => rfl⟩
  | .blt b a es, X, W, sc, e, g, h => by
    rw [mtE] at h
    obtain ⟨x, p0, es0, p, rfl, h⟩ := onCallN_inv h
    obtain ⟨a', es', rfl, h⟩ := onC_inv h
    obtain ⟨h1, h⟩ := ba h
    obtain ⟨h2, h⟩ := ba h
    obtain ⟨h3, h⟩ := ba h
    obtain ⟨h4, h⟩ := ba h
    obtain ⟨h5, h6⟩ := ba h
    obtain rfl := of_decide_eq_true h2
    have ia := sdE a g h5
    have ie := sdEs es g h6
    exact ok_pl rfl (mt_blt g h1 b h3 (of_decide_eq_true h4) ⟨fun z hz => (List.mem_cons.mp hz).elim (fun q => q ▸ ia.1) (ie.1 z), sa_cons ia.2.1 ie.2 (pl_star ia.1 _ X.env)⟩) fun _ => rfl
  | .call f es, X, W, sc, e, g, h => by
    rw [mtE] at h
    obtain ⟨x, p0, es', p, rfl, h⟩ := onCallN_inv h
    obtain ⟨h1, h⟩ := ba h
    obtain ⟨h2, h⟩ := ba h
    obtain ⟨h3, h⟩ := ba h
    obtain ⟨h4, h⟩ := ba h
    obtain ⟨h5, h6⟩ := ba h
    obtain rfl := of_decide_eq_true h2
    exact ok_pl rfl (mt_call g h1 h3 h4 (of_decide_eq_true h5) (sdEs es g h6) (mt_nil h6)) fun _ => rfl
  | .rev a c, X, W, sc, e, g, h => by
    rw [mtE] at h
    obtain ⟨a', b', p, rfl, h⟩ := onSub_inv h
    obtain ⟨c', p2, rfl, h⟩ := onSlice3_inv h
    obtain ⟨h1, h2⟩ := ba h
    exact ok_pl rfl (se_rev (sdE a g h1).2.1 (sdE c g h2).2.1) fun _ => rfl
  | .make f es, X, W, sc, e, g, h => by
    rw [mtE] at h
    obtain ⟨x, p0, es', p, rfl, h⟩ := onCallN_inv h
    obtain ⟨h1, h⟩ := ba h
    obtain ⟨h2, h⟩ := ba h
    obtain ⟨h3, h⟩ := ba h
    obtain ⟨h4, h⟩ := ba h
    obtain ⟨h5, h⟩ := ba h
    obtain ⟨h6, h7⟩ := ba h
    obtain rfl := of_decide_eq_true h3
    exact ok_pl rfl (mt_make g h1 h2 h4 (of_decide_eq_true h5) (by simpa using h6) (sdEs es g h7)) fun _ => rfl
  | .meth f o es, X, W, sc, e, g, h => by
    rw [mtE] at h
    obtain ⟨o', x, ap, es', p, rfl, h⟩ := onCallA_inv h
    obtain ⟨h1, h⟩ := ba h
    obtain ⟨h2, h⟩ := ba h
    obtain ⟨h3, h⟩ := ba h
    obtain ⟨h4, h⟩ := ba h
    obtain ⟨h5, h⟩ := ba h
    obtain ⟨h6, h⟩ := ba h
    obtain ⟨h7, h⟩ := ba h
    obtain ⟨h8, h⟩ := ba h
    obtain ⟨h9, h10⟩ := ba h
    obtain rfl := of_decide_eq_true h2
    exact ok_pl rfl (mt_meth g h1 h5 (by simpa using h3) (of_decide_eq_true h4) h6 h7 (of_decide_eq_true h8) (sdE o g h9).2.1 (sdEs es g h10) (mt_nil h10)) fun _ => rfl
  | .app o a, X, W, sc, e, g, h => by
    rw [mtE] at h
    obtain ⟨o', x, ap, es', p, rfl, h⟩ := onCallA_inv h
    obtain ⟨a', rfl, h⟩ := on1_inv h
    obtain ⟨h1, h⟩ := ba h
    obtain ⟨h2, h⟩ := ba h
    obtain ⟨h3, h⟩ := ba h
    obtain ⟨h4, h5⟩ := ba h
    obtain rfl := of_decide_eq_true h1
    have ia := sdE a g h5
    have mm := m1_ok (X := X) (m := "append") h2 ia.1 h3
    exact ok_pl rfl (se_app (sdE o g h4).2.1 ia.2.1 mm.base mm.few h3 (pl_star ia.1 _ X.env)) fun _ => rfl
  | .get2 o a b, X, W, sc, e, g, h => by
    rw [mtE] at h
    obtain ⟨o', x, ap, es', p, rfl, h⟩ := onCallA_inv h
    obtain ⟨a', b', rfl, h⟩ := on2_inv h
    obtain ⟨h1, h⟩ := ba h
    obtain ⟨h2, h⟩ := ba h
    obtain ⟨h3, h⟩ := ba h
    obtain ⟨h4, h⟩ := ba h
    obtain ⟨h5, h6⟩ := ba h
    obtain rfl := of_decide_eq_true h1
    have ia := sdE a g h5
    have ib := sdE b g h6
    exact ok_pl rfl (se_get2 g.un (sdE o g h4).2.1 ia.2.1 ib.2.1 (m2_ok h2 ia.1 ib.1 h3)) fun _ => rfl
  | .pop1 o a, X, W, sc, e, g, h => by
    rw [mtE] at h
    obtain ⟨o', x, ap, es', p, rfl, h⟩ := onCallA_inv h
    obtain ⟨a', rfl, h⟩ := on1_inv h
    obtain ⟨h1, h⟩ := ba h
    obtain ⟨h2, h⟩ := ba h
    obtain ⟨h3, h⟩ := ba h
    obtain ⟨h4, h5⟩ := ba h
    obtain rfl := of_decide_eq_true h1
    have ia := sdE a g h5
    exact ok_pl rfl (se_pop1 (sdE o g h4).2.1 ia.2.1 (m1_ok h2 ia.1 h3)) fun _ => rfl
  | .pop2 o a b, X, W, sc, e, g, h => by
    rw [mtE] at h
    obtain ⟨o', x, ap, es', p, rfl, h⟩ := onCallA_inv h
    obtain ⟨a', b', rfl, h⟩ := on2_inv h
    obtain ⟨h1, h⟩ := ba h
    obtain ⟨h2, h⟩ := ba h
    obtain ⟨h3, h⟩ := ba h
    obtain ⟨h4, h⟩ := ba h
    obtain ⟨h5, h6⟩ := ba h
    obtain rfl := of_decide_eq_true h1
    have ia := sdE a g h5
    have ib := sdE b g h6
    exact ok_pl rfl (se_pop2 (sdE o g h4).2.1 ia.2.1 ib.2.1 (m2_ok h2 ia.1 ib.1 h3)) fun _ => rfl
  | .sitems o, X, W, sc, e, g, h => by
    rw [mtE] at h
    obtain ⟨s, p0, es', p, rfl, h⟩ := onCallN_inv h
    obtain ⟨i, rfl, h⟩ := on1_inv h
    obtain ⟨o', x, ap, es2, cp, rfl, h⟩ := onCallA_inv h
    obtain ⟨h1, h⟩ := ba h
    obtain ⟨h2, h⟩ := ba h
    obtain ⟨h3, h⟩ := ba h
    obtain ⟨h4, h⟩ := ba h
    obtain ⟨h5, h⟩ := ba h
    obtain ⟨h6, h⟩ := ba h
    obtain ⟨h7, h⟩ := ba h
    obtain ⟨h8, h9⟩ := ba h
    obtain rfl := of_decide_eq_true h2
    obtain rfl := of_decide_eq_true h3
    obtain rfl := List.isEmpty_iff.mp h4
    exact ok_pl rfl (se_sitems (g.calm h1).1 g.un (g.gl h5) (g.fx.bl _ (of_decide_eq_true h6)) (sdE o g h9).2.1 (rc_base h7 _ _ _) h8) fun _ => rfl
  | .tabIn x kvs a, X, W, sc, e, g, h => by
    rw [mtE] at h
    obtain ⟨a', os, bs, p, rfl, h⟩ := onCmp_inv h
    obtain ⟨o', rfl, h⟩ := onO1_inv h
    obtain ⟨b', rfl, h⟩ := on1_inv h
    obtain ⟨y, p0, rfl, h⟩ := onName_inv h
    obtain ⟨h1, h⟩ := ba h
    obtain ⟨h2, h⟩ := ba h
    obtain ⟨h3, h⟩ := ba h
    obtain ⟨h4, h⟩ := ba h
    obtain ⟨h5, h6⟩ := ba h
    obtain rfl := of_decide_eq_true h1
    obtain rfl := of_decide_eq_true h2
    have ia := sdE a g h6
    have tb := g.fx.tb _ _ (of_decide_eq_true h5)
    exact ⟨rfl, se_tabIn (g.gl h3) tb ia.2.1 (okN_1 h4).1, st_tabIn (g.gl h3) tb ia.2.1 (okN_1 h4).1⟩
  | .tabAt x kvs a, X, W, sc, e, g, h => by
    rw [mtE] at h
    obtain ⟨b', a', p, rfl, h⟩ := onSub_inv h
    obtain ⟨y, p0, rfl, h⟩ := onName_inv h
    obtain ⟨h2, h⟩ := ba h
    obtain ⟨h3, h⟩ := ba h
    obtain ⟨h4, h⟩ := ba h
    obtain ⟨h5, h6⟩ := ba h
    obtain rfl := of_decide_eq_true h2
    have ia := sdE a g h6
    have tb := g.fx.tb _ _ (of_decide_eq_true h5)
    exact ok_pl rfl (se_tabAt (g.gl h3) tb ia.2.1 (pl_ix ia.1) (okN_1 h4).1) fun _ => rfl
  | .disp ks es, X, W, sc, e, g, h => by
    rw [mtE] at h
    obtain ⟨ks', es', p, rfl, h⟩ := onDict_inv h
    obtain ⟨h1, h⟩ := ba h
    obtain ⟨h2, h⟩ := ba h
    obtain ⟨h3, h4⟩ := ba h
    obtain ⟨i1, i2, i3⟩ := mtKs_inv h1
    have hp := sdPs es ks ks' h1 (of_decide_eq_true h3) p g h4
    refine ok_pl rfl ?_ fun _ => rfl
    cases ks' with
    | nil =>
      cases es' with
      | nil =>
        cases ks with
        | nil =>
          rw [mt_nil h4 rfl]
          exact se_disp0
        | cons _ _ => cases i2
      | cons _ _ => exact absurd (of_decide_eq_true h3) (by simp)
    | cons k0 kr => exact se_disp hp i1 (of_decide_eq_true h3) (by simp) (by rw [i2]; exact of_decide_eq_true h2)
  | .lc elt t it tst own, X, W, sc, e, g, h => by
    rw [mtE] at h
    obtain ⟨elt', gs, scope, p, rfl, h⟩ := onLc_inv h
    obtain ⟨tg', iter', ifs', rfl, h⟩ := onG1_inv h
    obtain ⟨h1, h⟩ := ba h
    obtain ⟨h2, h⟩ := ba h
    obtain ⟨h3, h⟩ := ba h
    obtain ⟨h4, h⟩ := ba h
    obtain ⟨h5, h⟩ := ba h
    obtain ⟨h6, h7⟩ := ba h
    have hN : X.N.Nodup := by rw [g.nN]; exact g.nd
    have bk : BlkOk X.N X.env.scope scope own := by rw [g.nN]; exact blkR g.sr h2
    obtain ⟨h50, h5⟩ := ba h5
    have ii := sdI it (tg := tg') g h5 h50
    exact ok_pl rfl (se_lc (g.calm h1).1 hN ii.2 bk (fun s H Ca cl fp => (pgT (g.blk h1 bk.kind s H cl Ca fp) h1 h4).1) (gT_go t) (fun i hi => of_decide_eq_true (List.all_eq_true.mp h3 i hi))
      (fun s H Ca cl fp => sdIfs tst (g.blk h1 bk.kind s H cl Ca fp) h6) (fun s H Ca cl fp => (sdE elt (g.blk h1 bk.kind s H cl Ca fp) h7).2.1) fun x => pl_fold ii.1 X.env x) fun _ => rfl
  | .isx hh a, X, W, sc, e, g, h => by
    rw [mtE] at h
    obtain ⟨x, p0, es, p, rfl, h⟩ := onCallN_inv h
    obtain ⟨a', b', rfl, h⟩ := on2_inv h
    obtain ⟨y, p1, rfl, h⟩ := onName_inv h
    obtain ⟨h0, h⟩ := ba h
    obtain ⟨h1, h⟩ := ba h
    obtain ⟨h2, h⟩ := ba h
    obtain ⟨h3, h⟩ := ba h
    obtain ⟨h4, h⟩ := ba h
    obtain ⟨h5, h⟩ := ba h
    obtain ⟨h6, h7⟩ := ba h
    obtain rfl := of_decide_eq_true h1
    obtain rfl := of_decide_eq_true h2
    have ia := sdE a g h7
    have hm : (∀ k, hh = some k → k ∈ C.xs) ∧ hMg X.K X.mg hh := by
      cases hh with
      | some k => exact ⟨fun j e => by cases e; exact of_decide_eq_true h6, (g.fx.xc k (of_decide_eq_true h6)).g⟩
      | none => exact ⟨(fun j e => nomatch e), g.fx.bl _ (of_decide_eq_true h6)⟩
    have q := se_isx (pos := p) (p1 := p0) (p2 := p1) (xs := C.xs) ia.2.1 (fun z c e => g.ex (by simpa using (ba h0).1) (ba h0).2 z c e) hm.1 (g.gl h3) (g.fx.bl _ (of_decide_eq_true h5)) (g.gl h4) hm.2 (pl_star ia.1 _ X.env)
    exact ⟨rfl, q, st_tru q fun _ => rfl⟩
  | .isi2 t u a, X, W, sc, e, g, h => by
    rw [mtE] at h
    obtain ⟨x, p0, es, p, rfl, h⟩ := onCallN_inv h
    obtain ⟨a', b', rfl, h⟩ := on2_inv h
    obtain ⟨cs, j, pt, rfl, h⟩ := onTup_inv h
    obtain ⟨c1, c2, rfl, h⟩ := on2_inv h
    obtain ⟨y1, q1, rfl, h⟩ := onName_inv h
    obtain ⟨y2, q2, rfl, h⟩ := onName_inv h
    obtain ⟨h1, h⟩ := ba h
    obtain ⟨h2, h⟩ := ba h
    obtain ⟨h3, h⟩ := ba h
    obtain ⟨h4, h⟩ := ba h
    obtain ⟨h5, h⟩ := ba h
    obtain ⟨h6, h⟩ := ba h
    obtain ⟨h7, h⟩ := ba h
    obtain ⟨h8, h⟩ := ba h
    obtain ⟨h9, h10⟩ := ba h
    obtain rfl := of_decide_eq_true h1
    obtain rfl := of_decide_eq_true h2
    obtain rfl := of_decide_eq_true h3
    have ia := sdE a g h10
    have q := se_isi2 (pos := p) (p1 := p0) (p2 := q1) (p3 := q2) (k := j) (p4 := pt) ia.2.1 (g.gl h4) (g.fx.bl _ (of_decide_eq_true h7)) (g.gl h5) (g.fx.bl _ (of_decide_eq_true h8)) (g.gl h6) (g.fx.bl _ (of_decide_eq_true h9)) (pl_star ia.1 _ X.env)
    exact ⟨rfl, q, st_tru q fun _ => rfl⟩
  | .six a b, X, W, sc, e, g, h => by
    rw [mtE] at h
    obtain ⟨a', b', p, rfl, h⟩ := onSub_inv h
    obtain ⟨h1, h2⟩ := ba h
    have ib := sdE b g h2
    exact ok_pl rfl (se_six (sdE a g h1).2.1 ib.2.1 (pl_ix ib.1)) fun _ => rfl
  | .idx o a, X, W, sc, e, g, h => by
    rw [mtE] at h
    obtain ⟨o', x, ap, es', p, rfl, h⟩ := onCallA_inv h
    obtain ⟨a', rfl, h⟩ := on1_inv h
    obtain ⟨h1, h⟩ := ba h
    obtain ⟨h2, h⟩ := ba h
    obtain ⟨h3, h⟩ := ba h
    obtain ⟨h4, h5⟩ := ba h
    obtain rfl := of_decide_eq_true h1
    have ia := sdE a g h5
    have mm := m1_ok (X := X) (m := "index") h2 ia.1 h3
    exact ok_pl rfl (se_idx (sdE o g h4).2.1 ia.2.1 mm.base mm.few h3 (pl_star ia.1 _ X.env)) fun _ => rfl
  | .lrg a, X, W, sc, e, g, h => by
    rw [mtE] at h
    obtain ⟨x, p0, es, p, rfl, h⟩ := onCallN_inv h
    obtain ⟨r, rfl, k1⟩ := on1_inv h
    obtain ⟨y, p1, es2, p2, rfl, k2⟩ := onCallN_inv k1
    obtain ⟨a', rfl, k3⟩ := on1_inv k2
    obtain ⟨h0, h⟩ := ba k3
    obtain ⟨h1, h⟩ := ba h
    obtain ⟨h2, h⟩ := ba h
    obtain ⟨h3, h⟩ := ba h
    obtain ⟨h4, h⟩ := ba h
    obtain ⟨h5, h⟩ := ba h
    obtain ⟨h6, h7⟩ := ba h
    obtain rfl := of_decide_eq_true h1
    obtain rfl := of_decide_eq_true h2
    have ia := sdE a g h7
    exact ok_pl rfl (se_lr (g.calm h0).1 (g.gl h3) (g.fx.bl _ (of_decide_eq_true h5)) (g.gl h4) (g.fx.bl _ (of_decide_eq_true h6)) ia.2.1 (pl_star ia.1 _ X.env)) fun _ => rfl
  | .lset a, X, W, sc, e, g, h => by
    rw [mtE] at h
    obtain ⟨x, p0, es, p, rfl, h⟩ := onCallN_inv h
    obtain ⟨r, rfl, k1⟩ := on1_inv h
    obtain ⟨y, p1, es2, p2, rfl, k2⟩ := onCallN_inv k1
    obtain ⟨a', rfl, k3⟩ := on1_inv k2
    obtain ⟨h0, h⟩ := ba k3
    obtain ⟨h1, h⟩ := ba h
    obtain ⟨h2, h⟩ := ba h
    obtain ⟨h3, h⟩ := ba h
    obtain ⟨h4, h⟩ := ba h
    obtain ⟨h5, h⟩ := ba h
    obtain ⟨h6, h7⟩ := ba h
    obtain rfl := of_decide_eq_true h1
    obtain rfl := of_decide_eq_true h2
    have ia := sdE a g h7
    exact ok_pl rfl (se_lset (g.calm h0).1 (g.gl h3) (g.fx.bl _ (of_decide_eq_true h5)) (g.gl h4) (g.fx.bl _ (of_decide_eq_true h6)) ia.2.1 (pl_star ia.1 _ X.env)) fun _ => rfl
  | .sset a, X, W, sc, e, g, h => by
    rw [mtE] at h
    obtain ⟨x, p0, es, p, rfl, h⟩ := onCallN_inv h
    obtain ⟨r, rfl, k1⟩ := on1_inv h
    obtain ⟨y, p1, es2, p2, rfl, k2⟩ := onCallN_inv k1
    obtain ⟨a', rfl, k3⟩ := on1_inv k2
    obtain ⟨h0, h⟩ := ba k3
    obtain ⟨h1, h⟩ := ba h
    obtain ⟨h2, h⟩ := ba h
    obtain ⟨h3, h⟩ := ba h
    obtain ⟨h4, h⟩ := ba h
    obtain ⟨h5, h⟩ := ba h
    obtain ⟨h6, h7⟩ := ba h
    obtain rfl := of_decide_eq_true h1
    obtain rfl := of_decide_eq_true h2
    have ia := sdE a g h7
    exact ok_pl rfl (se_sset (g.calm h0).1 (g.gl h3) (g.fx.bl _ (of_decide_eq_true h5)) (g.gl h4) (g.fx.bl _ (of_decide_eq_true h6)) ia.2.1 (pl_star ia.1 _ X.env)) fun _ => rfl
theorem sdEs : ∀ (ms : MEs) {X : Cx} {W : WX} {sc : Scope} {es : List Expr}, Gd C Γ ps k X W N sc → mtEs C N ms sc es = true → Ok4 X W es (eA Γ ms)
  | .nil, X, W, sc, es, g, h => by
    rw [mtEs] at h
    obtain rfl := List.isEmpty_iff.mp h
    exact ⟨(fun _ h => nomatch h), sa_nil⟩
  | .cons a r, X, W, sc, es, g, h => by
    rw [mtEs] at h
    obtain ⟨a', r', rfl, h⟩ := onC_inv h
    obtain ⟨h1, h2⟩ := ba h
    have ia := sdE a g h1
    have ir := sdEs r g h2
    exact ⟨fun z hz => (List.mem_cons.mp hz).elim (fun q => q ▸ ia.1) (ir.1 z), sa_cons ia.2.1 ir.2 (pl_star ia.1 _ X.env)⟩
theorem sdPs : ∀ (ms : MEs) (ks : List Str) (ks' : List (Option Expr)) {X : Cx} {W : WX} {sc : Scope} {es : List Expr}, mtKs ks ks' = true → ks'.length = es.length → ∀ pos, Gd C Γ ps k X W N sc → mtEs C N ms sc es = true → PsM X W pos ks' es ks (eA Γ ms)
  | .nil, ks, ks', X, W, sc, es, hk, hl, pos, g, h => by
    rw [mtEs] at h
    have he : es = [] := List.isEmpty_iff.mp h
    subst he
    cases ks' with
    | nil =>
      cases ks with
      | nil => exact ps_nil
      | cons _ _ => rw [mtKs] at hk; cases hk
    | cons _ _ => cases hl
  | .cons a r, ks, ks', X, W, sc, es, hk, hl, pos, g, h => by
    rw [mtEs] at h
    obtain ⟨a', r', rfl, h⟩ := onC_inv h
    obtain ⟨h1, h2⟩ := ba h
    cases ks with
    | nil =>
      rw [mtKs] at hk
      rw [List.isEmpty_iff.mp hk] at hl
      cases hl
    | cons k0 ks =>
      rw [mtKs] at hk
      obtain ⟨x, j, p, kr, rfl, hk⟩ := onKC_inv hk
      obtain ⟨k1, k2⟩ := ba hk
      obtain rfl := of_decide_eq_true k1
      exact ps_cons (sdE a g h1).2.1 (sdPs r ks kr k2 (by simpa using hl) pos g h2)
theorem sdAnd : ∀ (ms : MEs) {X : Cx} {W : WX} {sc : Scope} {es : List Expr}, Gd C Γ ps k X W N sc → mtEs C N ms sc es = true → ∀ p, SE X W (.BoolOp .And es p) (eAnd Γ ms).1 ∧ PW X (.BoolOp .And es p) (tT X.K W (eAnd Γ ms).2)
  | .nil, X, W, sc, es, g, h, p => by
    exact ⟨⟨fun pins s σ H Q I ⟨p, G, e, rl, ev, h⟩ => h.elim⟩, ⟨fun wh pins s σ H Q I ⟨p, G, e, rl, ev, h⟩ => h.elim⟩⟩
  | .cons a .nil, X, W, sc, es, g, h, p => by
    rw [mtEs] at h
    obtain ⟨a', r', rfl, h⟩ := onC_inv h
    obtain ⟨h1, h2⟩ := ba h
    rw [mtEs] at h2
    obtain rfl := List.isEmpty_iff.mp h2
    have ia := sdE a g h1
    exact ⟨pe_one ia.2.1, pw_and1 ia.2.2⟩
  | .cons a (.cons b r), X, W, sc, es, g, h, p => by
    rw [mtEs] at h
    obtain ⟨a', r', rfl, h⟩ := onC_inv h
    obtain ⟨h1, h2⟩ := ba h
    have ia := sdE a g h1
    have ir := sdAnd (.cons b r) g h2 p
    rw [mtEs] at h2
    obtain ⟨b', r'', rfl, _⟩ := onC_inv h2
    exact ⟨pe_imp (pe_and ia.2.1 ir.1) fun _ _ _ h => read_andV h, pw_imp (pw_and ia.2.2 ir.2) fun _ _ _ h => read_and h⟩
theorem sdOr : ∀ (ms : MEs) {X : Cx} {W : WX} {sc : Scope} {es : List Expr}, Gd C Γ ps k X W N sc → mtEs C N ms sc es = true → ∀ p, SE X W (.BoolOp .Or es p) (eOr Γ ms).1 ∧ PW X (.BoolOp .Or es p) (tT X.K W (eOr Γ ms).2)
  | .nil, X, W, sc, es, g, h, p => by
    exact ⟨⟨fun pins s σ H Q I ⟨p, G, e, rl, ev, h⟩ => h.elim⟩, ⟨fun wh pins s σ H Q I ⟨p, G, e, rl, ev, h⟩ => h.elim⟩⟩
  | .cons a .nil, X, W, sc, es, g, h, p => by
    rw [mtEs] at h
    obtain ⟨a', r', rfl, h⟩ := onC_inv h
    obtain ⟨h1, h2⟩ := ba h
    rw [mtEs] at h2
    obtain rfl := List.isEmpty_iff.mp h2
    have ia := sdE a g h1
    exact ⟨pe_one ia.2.1, pw_or1 ia.2.2⟩
  | .cons a (.cons b r), X, W, sc, es, g, h, p => by
    rw [mtEs] at h
    obtain ⟨a', r', rfl, h⟩ := onC_inv h
    obtain ⟨h1, h2⟩ := ba h
    have ia := sdE a g h1
    have ir := sdOr (.cons b r) g h2 p
    rw [mtEs] at h2
    obtain ⟨b', r'', rfl, _⟩ := onC_inv h2
    exact ⟨pe_imp (pe_or ia.2.1 ir.1) fun _ _ _ h => read_orV h, pw_imp (pw_or ia.2.2 ir.2) fun _ _ _ h => read_or h⟩
theorem sdO : ∀ (mo : MO) {X : Cx} {W : WX} {sc : Scope} {e : Option Expr}, Gd C Γ ps k X W N sc → mtO C N mo sc e = true → PO X e (tO X.K W (mPart (eO Γ mo)))
  | .none, X, W, sc, e, g, h => by
    rw [mtO] at h
    obtain rfl := Option.isNone_iff_eq_none.mp h
    exact so_none
  | .some a, X, W, sc, e, g, h => by
    rw [mtO] at h
    obtain ⟨a', rfl, h⟩ := onSome_inv h
    exact so_some (sdE a g h).2.1
theorem sdIfs : ∀ (mo : MO) {X : Cx} {sc : Scope} {es : List Expr}, Gd C Γ ps k X W0 N sc → mtIfs C N mo sc es = true → PTsM X es (eTst Γ mo)
  | .none, X, sc, e, g, h => by
    rw [mtIfs] at h
    obtain rfl := List.isEmpty_iff.mp h
    exact ptm_nil
  | .some a, X, sc, e, g, h => by
    rw [mtIfs] at h
    obtain ⟨a', rfl, h⟩ := on1_inv h
    exact ptm_one (sdE a g h).2.2
theorem sdI : ∀ (mi : MIt) {X : Cx} {W : WX} {sc : Scope} {e tg : Expr}, Gd C Γ ps k X W N sc → mtI C N mi sc e = true → itOk mi tg = true → plainB e = true ∧ SI X W tg e (eI Γ mi)
  | .val a, X, W, sc, e, tg, g, h, _ => by
    rw [mtI] at h
    have ia := sdE a g h
    exact ⟨ia.1, si_val ia.2.1⟩
  | .range1 a, X, W, sc, e, tg, g, h, _ => by
    rw [mtI] at h
    obtain ⟨x, p0, es, p, rfl, h⟩ := onCallN_inv h
    obtain ⟨a', rfl, h⟩ := on1_inv h
    obtain ⟨h1, h⟩ := ba h
    obtain ⟨h2, h⟩ := ba h
    obtain ⟨h3, h4⟩ := ba h
    obtain rfl := of_decide_eq_true h1
    have ia := sdE a g h4
    exact ⟨rfl, si_range1 (g.gl h2) (g.fx.bl _ (of_decide_eq_true h3)) (sa_cons ia.2.1 sa_nil (pl_star ia.1 _ X.env)) (pl_star ia.1 _ X.env)⟩
  | .range2 a b, X, W, sc, e, tg, g, h, _ => by
    rw [mtI] at h
    obtain ⟨x, p0, es, p, rfl, h⟩ := onCallN_inv h
    obtain ⟨a', b', rfl, h⟩ := on2_inv h
    obtain ⟨h1, h⟩ := ba h
    obtain ⟨h2, h⟩ := ba h
    obtain ⟨h3, h⟩ := ba h
    obtain ⟨h4, h5⟩ := ba h
    obtain rfl := of_decide_eq_true h1
    have ia := sdE a g h4
    have ib := sdE b g h5
    exact ⟨rfl, si_range2 (g.gl h2) (g.fx.bl _ (of_decide_eq_true h3)) (sa_cons ia.2.1 (sa_cons ib.2.1 sa_nil (pl_star ib.1 _ X.env)) (pl_star ia.1 _ X.env)) ((pl_star ia.1 [b'] X.env).trans (congrArg _ (pl_star ib.1 [] X.env))) (pl_star ib.1 [] X.env)⟩
  | .enum a, X, W, sc, e, tg, g, h, ht => by
    rw [mtI] at h
    obtain ⟨x, p0, es, p, rfl, h⟩ := onCallN_inv h
    obtain ⟨a', rfl, h⟩ := on1_inv h
    obtain ⟨h1, h⟩ := ba h
    obtain ⟨h2, h⟩ := ba h
    obtain ⟨h3, h4⟩ := ba h
    obtain rfl := of_decide_eq_true h1
    have ia := sdE a g h4
    cases tg <;> first | (cases ht; done) | skip
    exact ⟨rfl, si_enumT (g.gl h2) (g.fx.bl _ (of_decide_eq_true h3)) ia.2.1 (pl_star ia.1 _ X.env)⟩
end
end
end Mw
namespace Mw
open PySem L2
open PyProof.Rows hiding St
mutual
inductive MS where
  | asg (t : Tg) (a : ME) | asgLc (i : Nat) (elt : ME) (t : Tg) (it : MIt) (tst : MO) (own : List (Str × Nat))
  | setI (o i v : ME) | setF (f : Nat) (o v : ME) | augN (i : Nat) (a : ME) | augF (f : Nat) (o a : ME) | augI (o : ME) (k : Str) (a : ME)
  | expr (a : ME) | ret (a : ME) | retN | pass | cont
  | ifS (c : ME) (a b : MB) | forS (t : Tg) (it : MIt) (b : MB) | whileS (n : Nat) (c : ME) (b : MB)
  | raise (c : Nat) | tryS (b : MB) (hs : MHs) | tryAs (b : MB) (c i : Nat) (hd : MB)
inductive MB where
  | nil | cons (s : MS) (r : MB)
inductive MHs where
  | nil | cons (c : Nat) (b : MB) (r : MHs)
end
noncomputable section
mutual
@[simp] def eS (Γ : Fns) (xs : List Nat) : MS → MS0
  | .asg t a => mAsg t (eP Γ a).1
  | .asgLc i elt t it tst own => mAsg (.nm i) (mLc t (eI Γ it) (eTst Γ tst) (eP Γ elt).1 (own.map (·.2)))
  | .setI o i v => mSetI (eP Γ o).1 (eP Γ i).1 (eP Γ v).1
  | .setF f o v => mSetF f (eP Γ o).1 (eP Γ v).1
  | .augN i a => mAug i (eP Γ a).1
  | .augF f o a => mAugF f (eP Γ o).1 (eP Γ a).1
  | .augI o k a => mAugI (eP Γ o).1 k (eP Γ a).1
  | .expr a => mDrop (eP Γ a).1
  | .ret a => mRet (eP Γ a).1
  | .retN => mRetN
  | .pass => mNext
  | .cont => mCont
  | .ifS c a b => mIfS (eP Γ c).2 (eB Γ xs a) (eB Γ xs b)
  | .forS t it b => mFor t (eI Γ it) (eB Γ xs b)
  | .whileS n c b => whileGo (eP Γ c).2 (eB Γ xs b) n
  | .raise c => mRaise c
  | .tryS b hs => mTry xs (eB Γ xs b) (eH Γ xs hs)
  | .tryAs b c i hd => mTryAs xs (eB Γ xs b) c i fun ac => eB ⟨Γ.F, Γ.ar, some ac⟩ xs hd
@[simp] def eB (Γ : Fns) (xs : List Nat) : MB → MS0
  | .nil => mNext
  | .cons s r => mSeq (eS Γ xs s) (eB Γ xs r)
@[simp] def eH (Γ : Fns) (xs : List Nat) : MHs → List (Nat × MS0)
  | .nil => []
  | .cons c b r => (c, eB Γ xs b) :: eH Γ xs r
end
end
def onAssign1 (z : Stmt) (k : Expr → Expr → Bool) : Bool := match z with
  | .Assign [t] v _ => k t v
  | _ => false
theorem onAssign1_inv {z : Stmt} {k : Expr → Expr → Bool} (h : onAssign1 z k = true) : ∃ (t v : Expr) (p : Pos), z = .Assign [t] v p ∧ k t v = true := by
  unfold onAssign1 at h
  split at h
  · exact ⟨_, _, _, rfl, h⟩
  · cases h
def onAug (z : Stmt) (k : Expr → Expr → Bool) : Bool := match z with
  | .AugAssign t .Add v _ => k t v
  | _ => false
theorem onAug_inv {z : Stmt} {k : Expr → Expr → Bool} (h : onAug z k = true) : ∃ (t v : Expr) (p : Pos), z = .AugAssign t .Add v p ∧ k t v = true := by
  unfold onAug at h
  split at h
  · exact ⟨_, _, _, rfl, h⟩
  · cases h
def onExpr (z : Stmt) (k : Expr → Bool) : Bool := match z with
  | .Expr v _ => k v
  | _ => false
theorem onExpr_inv {z : Stmt} {k : Expr → Bool} (h : onExpr z k = true) : ∃ (v : Expr) (p : Pos), z = .Expr v p ∧ k v = true := by
  unfold onExpr at h
  split at h
  · exact ⟨_, _, rfl, h⟩
  · cases h
def onRet (z : Stmt) (k : Option Expr → Bool) : Bool := match z with
  | .Return v _ => k v
  | _ => false
theorem onRet_inv {z : Stmt} {k : Option Expr → Bool} (h : onRet z k = true) : ∃ (v : Option Expr) (p : Pos), z = .Return v p ∧ k v = true := by
  unfold onRet at h
  split at h
  · exact ⟨_, _, rfl, h⟩
  · cases h
def isPass (z : Stmt) : Bool := match z with
  | .Pass _ => true
  | _ => false
theorem isPass_inv {z : Stmt} (h : isPass z = true) : ∃ p, z = .Pass p := by
  unfold isPass at h
  split at h
  · exact ⟨_, rfl⟩
  · cases h
def isCont (z : Stmt) : Bool := match z with
  | .Continue _ => true
  | _ => false
theorem isCont_inv {z : Stmt} (h : isCont z = true) : ∃ p, z = .Continue p := by
  unfold isCont at h
  split at h
  · exact ⟨_, rfl⟩
  · cases h
def onIfS (z : Stmt) (k : Expr → List Stmt → List Stmt → Bool) : Bool := match z with
  | .If c a b _ => k c a b
  | _ => false
theorem onIfS_inv {z : Stmt} {k : Expr → List Stmt → List Stmt → Bool} (h : onIfS z k = true) : ∃ (c : Expr) (a b : List Stmt) (p : Pos), z = .If c a b p ∧ k c a b = true := by
  unfold onIfS at h
  split at h
  · exact ⟨_, _, _, _, rfl, h⟩
  · cases h
def onFor (z : Stmt) (k : Expr → Expr → List Stmt → Bool) : Bool := match z with
  | .For t i b [] _ => k t i b
  | _ => false
theorem onFor_inv {z : Stmt} {k : Expr → Expr → List Stmt → Bool} (h : onFor z k = true) : ∃ (t i : Expr) (b : List Stmt) (p : Pos), z = .For t i b [] p ∧ k t i b = true := by
  unfold onFor at h
  split at h
  · exact ⟨_, _, _, _, rfl, h⟩
  · cases h
def onWhile (z : Stmt) (k : Expr → List Stmt → Bool) : Bool := match z with
  | .While c b [] _ => k c b
  | _ => false
theorem onWhile_inv {z : Stmt} {k : Expr → List Stmt → Bool} (h : onWhile z k = true) : ∃ (c : Expr) (b : List Stmt) (p : Pos), z = .While c b [] p ∧ k c b = true := by
  unfold onWhile at h
  split at h
  · exact ⟨_, _, _, rfl, h⟩
  · cases h
def onRaise (z : Stmt) (k : Str → Bool) : Bool := match z with
  | .Raise (some (.Call (.Name x _) [.Constant (.str _) _ _] [] _)) none _ => k x
  | _ => false
theorem onRaise_inv {z : Stmt} {k : Str → Bool} (h : onRaise z k = true) : ∃ (x : Str) (p1 : Pos) (mt : Str) (j : Nat) (p2 p3 p : Pos), z = .Raise (some (.Call (.Name x p1) [.Constant (.str mt) j p2] [] p3)) none p ∧ k x = true := by
  unfold onRaise at h
  split at h
  · exact ⟨_, _, _, _, _, _, _, rfl, h⟩
  · cases h
def onTry (z : Stmt) (k : List Stmt → List ExceptHandler → Bool) : Bool := match z with
  | .Try b hs [] [] _ => k b hs
  | _ => false
theorem onTry_inv {z : Stmt} {k : List Stmt → List ExceptHandler → Bool} (h : onTry z k = true) : ∃ (b : List Stmt) (hs : List ExceptHandler) (p : Pos), z = .Try b hs [] [] p ∧ k b hs = true := by
  unfold onTry at h
  split at h
  · exact ⟨_, _, _, rfl, h⟩
  · cases h
def onHd (z : List ExceptHandler) (k : Str → List Stmt → List ExceptHandler → Bool) : Bool := match z with
  | .ExceptHandler (some (.Name x _)) none b _ :: r => k x b r
  | _ => false
theorem onHd_inv {z : List ExceptHandler} {k : Str → List Stmt → List ExceptHandler → Bool} (h : onHd z k = true) : ∃ (x : Str) (np : Pos) (b : List Stmt) (p : Pos) (r : List ExceptHandler), z = .ExceptHandler (some (.Name x np)) none b p :: r ∧ k x b r = true := by
  unfold onHd at h
  split at h
  · exact ⟨_, _, _, _, _, rfl, h⟩
  · cases h
def onHdAs (z : List ExceptHandler) (k : Str → Str → List Stmt → Bool) : Bool := match z with
  | [.ExceptHandler (some (.Name x _)) (some n) b _] => k x n b
  | _ => false
theorem onHdAs_inv {z : List ExceptHandler} {k : Str → Str → List Stmt → Bool} (h : onHdAs z k = true) : ∃ (x : Str) (np : Pos) (n : Str) (b : List Stmt) (p : Pos), z = [.ExceptHandler (some (.Name x np)) (some n) b p] ∧ k x n b = true := by
  unfold onHdAs at h
  split at h
  · exact ⟨_, _, _, _, _, rfl, h⟩
  · cases h
def onSC (z : List Stmt) (k : Stmt → List Stmt → Bool) : Bool := match z with
  | a :: r => k a r
  | [] => false
theorem onSC_inv {z : List Stmt} {k : Stmt → List Stmt → Bool} (h : onSC z k = true) : ∃ a r, z = a :: r ∧ k a r = true := by
  unfold onSC at h
  split at h
  · exact ⟨_, _, rfl, h⟩
  · cases h
def lcLine (t v : Expr) : Bool := match t, v with
  | .Name y py, .ListComp _ _ scope p => (py.line == p.line) && !(scope.names.any fun (n, k) => n == y && (k == .local || k == .cell))
  | _, _ => false
/-- the plain store: no comprehension on the target's line -/
def stB (sc : Scope) (t v : Expr) : Bool := match v with
  | .ListComp _ _ _ p => (match t with
    | .Name y py => !(py.line == p.line) || decide (sc.names.lookup y = some .cell)
    | _ => false)
  | .Tuple .. => (match t with
    | .Name .. => true
    | _ => false)
  | _ => true
def isNm : Tg → Bool
  | .nm _ => true
  | .tp _ => false
def calmOff (C : Ct) : Ct := { C with calm := false, hot := false }
def calmAs (C : Ct) : Ct := { C with calm := false, hot := true }
mutual
def mtS (C : Ct) (N : List Str) : MS → Scope → Stmt → Bool
  | .asg t a, sc, z => onAssign1 z fun t' v => (C.calm || isNm t) && (mtT N t sc t' && (stB sc t' v && mtE C N a sc v))
  | .asgLc i elt t it tst own, sc, z => onAssign1 z fun t' v => onName t' fun y => lcLine t' v && (decide (N[i]? = some y) && (decide (sc.names.lookup y = some .local) && mtE C N (.lc elt t it tst own) sc v))
  | .setI o i v, sc, z => onAssign1 z fun t' v' => onSub t' fun o' i' => mtE C N o sc o' && (mtE C N i sc i' && mtE C N v sc v')
  | .setF f o v, sc, z => onAssign1 z fun t' v' => onAttr t' fun o' x => decide (x = fname f) && (decide (f < 8) && (C.cls && (mtE C N o sc o' && mtE C N v sc v')))
  | .augN i a, sc, z => onAug z fun t' v => onName t' fun x => decide (N[i]? = some x) && (locB sc x && mtE C N a sc v)
  | .augF f o a, sc, z => onAug z fun t' v => onAttr t' fun o' x => decide (x = fname f) && (decide (f < 8) && (C.cls && (mtE C N o sc o' && mtE C N a sc v)))
  | .augI o k a, sc, z => onAug z fun t' v => onSub t' fun o' i' => onConst i' fun c => decide (c = .str k) && (mtE C N o sc o' && mtE C N a sc v)
  | .expr a, sc, z => onExpr z fun v => noLcB v && mtE C N a sc v
  | .ret a, sc, z => onRet z fun v => onSome v fun v => mtE C N a sc v
  | .retN, _, z => onRet z fun v => v.isNone
  | .pass, _, z => isPass z
  | .cont, _, z => isCont z
  | .ifS c a b, sc, z => onIfS z fun c' a' b' => mtE C N c sc c' && (mtB C N a sc a' && mtB C N b sc b')
  | .forS t it b, sc, z => onFor z fun t' i' b' => C.calm && (mtT N t sc t' && ((itOk it t' && mtI C N it sc i') && mtB C N b sc b'))
  | .whileS _ c b, sc, z => onWhile z fun c' b' => mtE C N c sc c' && mtB C N b sc b'
  | .raise c, sc, z => onRaise z fun x => C.calm && (decide (x = xname c) && (glB sc (xname c) && decide (c ∈ C.xs)))
  | .tryS b hs, sc, z => onTry z fun b' hs' => !C.hot && (mtB C N b sc b' && (mtH C N hs sc hs' && !hs'.isEmpty))
  | .tryAs b c i hd, sc, z => onTry z fun b' hs' => onHdAs hs' fun x n b2 => decide (x = xname c) && (glB sc (xname c) && (decide (c ∈ C.xs) && (decide (N[i]? = some n) && (decide (sc.names.lookup n = some .local) && (C.ix && (!b2.isEmpty && (!C.hot && (mtB C N b sc b' && mtB (calmAs C) N hd sc b2))))))))
def mtB (C : Ct) (N : List Str) : MB → Scope → List Stmt → Bool
  | .nil, _, z => z.isEmpty
  | .cons s r, sc, z => onSC z fun s' r' => mtS C N s sc s' && mtB C N r sc r'
def mtH (C : Ct) (N : List Str) : MHs → Scope → List ExceptHandler → Bool
  | .nil, _, z => z.isEmpty
  | .cons c b r, sc, z => onHd z fun x b' r' => decide (x = xname c) && (glB sc (xname c) && (decide (c ∈ C.xs) && (!b'.isEmpty && (mtB (calmOff C) N b sc b' && mtH C N r sc r'))))
end
structure Gs (C : Ct) (Γ : Fns) (ps : Nat → List Str) (k : Nat) (X : Cx) (W : WX) (N : List Str) (sc : Scope) : Prop extends Gd C Γ ps k X W N sc where
  own : PassesOwn (model X.prog X.w) X.A X.env X.xe
  stk : X.stack = X.env :: X.outer
  frm : X.env.frame = some X.env.locals
section
variable {C : Ct} {Γ : Fns} {ps : Nat → List Str} {k : Nat} {X : Cx} {W : WX} {N : List Str} {sc : Scope}
theorem Gs.tr (g : Gs C Γ ps k X W N sc) (hot : C.hot = false) {W' : WX} {pn : List (Addr × Obj)} {xe : Value → Shared → Prop} (tk : Takes (X.tr pn xe) W') (ow : PassesOwn (model X.prog X.w) X.A X.env xe) : Gs C Γ ps k (X.tr pn xe) W' N sc :=
  { fx := g.fx, nN := g.nN, nd := g.nd, sr := g.sr, tk := tk, un := g.un, calm := g.calm, fnc := g.fnc, ex := (fun _ z => by rw [hot] at z; cases z), own := ow, stk := g.stk, frm := g.frm }
theorem Fx.off {P : Program} {w : World} {K : PySem.W.Frag} {mg : Str → Option Value} {base : Heap} (h : Fx C Γ ps k P w K mg base) : Fx (calmOff C) Γ ps k P w K mg base := ⟨h.ar, h.fn, h.me, h.ini, h.cg, h.bl, h.gi, h.gs, h.xc, h.xm, h.cl, h.tb, h.ix⟩
theorem Gs.suite (g : Gs C Γ ps k X W N sc) (a : Addr) (pn : List (Addr × Obj)) : Gs (calmOff C) Γ ps k (X.suite a pn) W0 N sc :=
  { fx := g.fx.off, nN := g.nN, nd := g.nd, sr := g.sr, tk := takes0, un := g.un, calm := (fun h => nomatch h), fnc := g.fnc, ex := (fun _ z => nomatch z), own := PassesOwn.never, stk := g.stk, frm := g.frm }
theorem Fx.as {P : Program} {w : World} {K : PySem.W.Frag} {mg : Str → Option Value} {base : Heap} (h : Fx C Γ ps k P w K mg base) (ac : Addr × Nat) : Fx (calmAs C) ⟨Γ.F, Γ.ar, some ac⟩ ps k P w K mg base := ⟨h.ar, h.fn, h.me, h.ini, h.cg, h.bl, h.gi, h.gs, h.xc, h.xm, h.cl, h.tb, h.ix⟩
theorem kitOne_of {K : PySem.W.Frag} {a b : Value} {v : Bool} (h : PySem.W.exmOne K a b = some v) (r : PySem.W.exmOne K a a = some true) : PySem.W.kitOne K a b = some v := by
  unfold PySem.W.kitOne
  split
  · rename_i e
    have e2 : a = b := beq_iff_eq.mp e
    subst e2
    rw [r] at h
    exact h
  · unfold PySem.W.exmOne at h
    split at h
    · exact h
    · cases h
theorem exSub_self (c : Nat) : exSub c c = true := by unfold exSub; simp
theorem Gs.suiteAs (g : Gs C Γ ps k X W N sc) (hix : C.ix = true) {a : Addr} {c : Nat} {oe : Obj} {pn : List (Addr × Obj)} (hc : c ∈ C.xs) (hz : Zc (.ref (He.ga X.K (xname c))) none oe) (hf : ∃ vs, oe.data = .fields vs) :
    Gs (calmAs C) ⟨Γ.F, Γ.ar, some (a, c)⟩ ps k (X.suite a ((a, oe) :: pn)) W0 N sc :=
  { fx := g.fx.as (a, c), nN := g.nN, nd := g.nd, sr := g.sr, tk := takes0, un := g.un, calm := (fun h => nomatch h), fnc := g.fnc, own := PassesOwn.never, stk := g.stk, frm := g.frm
    ex := fun _ _ a' c' e => by
      obtain ⟨rfl, rfl⟩ := Prod.mk.inj (Option.some.inj e)
      refine ⟨call_isE (g.fx.ix hix c hc).1 hz hf, fun h hh => ?_⟩
      cases h with
      | none => exact (g.fx.ix hix c hc).2
      | some j => exact kitOne_of (g.fx.xm c hc j (hh j rfl)) ((g.fx.xm c hc c hc).trans (congrArg some (exSub_self c))) }
theorem pgN (g : Gd C Γ ps k X W N sc) {t : Tg} {e : Expr} (hc : (C.calm || isNm t) = true) (h : mtT N t sc e = true) : PG X e (gT X.K t) ∧ (assignEach [e] X.env).map (·.2) = [assign e X.env] := by
  cases t with
  | tp is => exact pgT g (by simpa [isNm] using hc) h
  | nm i =>
    rw [mtT] at h
    obtain ⟨x, p, rfl, h⟩ := onName_inv h
    obtain ⟨h1, h2⟩ := ba h
    obtain ⟨l1, l2⟩ := g.loc h2
    exact ⟨pg_name (by rw [g.nN]; exact g.nd) (by rw [g.nN]; exact of_decide_eq_true h1) l1 l2, rfl⟩
theorem stB_ok (sr : ScR sc X.env) {t v : Expr} {l : Nat} (hp : plainB v = true) (h : stB sc t v = true) : swapsWithSole [t] v l X.env = pure false ∧ swappedStores [t] v X.env = pure none := by
  cases v <;> first
    | (cases hp; done)
    | (refine ⟨rfl, ?_⟩; cases t <;> rfl)
    | skip
  · rename_i e gs s p
    cases t <;> first | (cases h; done) | skip
    rename_i y py
    refine ⟨?_, rfl⟩
    have h' : (!(py.line == p.line) || decide (sc.names.lookup y = some .cell)) = true := h
    show swapsWith (.ListComp e gs s p) (some (.Name y py)) l X.env = pure false
    unfold swapsWith
    rcases (Bool.or_eq_true _ _).mp h' with h' | h'
    · have h2 : (py.line == p.line) = false := by simpa using h'
      simp only [Expr.pos, h2]
      simp
    · have h2 := sr.ce y (of_decide_eq_true h')
      have h3 : (X.env.kindOf y == some .local) = false := by
        show (X.env.scope.names.lookup y == some .local) = false
        rw [h2]; rfl
      simp only [h3]
      simp
  · cases t <;> first | (cases h; done) | exact ⟨rfl, rfl⟩
theorem setI_has {o b : Expr} {p2 : Pos} (hb : plainB b = true) (v : Value) : assign (.Subscript o b p2) X.env v = (do
      let ov ← holding [v] (eval o X.env)
      let iv ← holding [v, ov] (eval b X.env)
      standAt p2
      holding [v, ov, iv] (setItem ov iv v)
      release [v, ov, iv] []) := by
  cases b <;> first | (cases hb; done) | rfl
end
section
variable {ps : Nat → List Str} {k : Nat} {N : List Str}
mutual
theorem sdS : ∀ (ms : MS) {C : Ct} {Γ : Fns} {X : Cx} {W : WX} {sc : Scope} {z : Stmt}, Gs C Γ ps k X W N sc → mtS C N ms sc z = true → SS X W z (eS Γ C.xs ms)
  | .asg t a, C, Γ, X, W, sc, z, g, h => by
    rw [mtS] at h
    obtain ⟨t', v, p, rfl, h⟩ := onAssign1_inv h
    obtain ⟨h1, h⟩ := ba h
    obtain ⟨h2, h⟩ := ba h
    obtain ⟨h3, h4⟩ := ba h
    have ia := sdE a g.toGd h4
    have ig := pgN g.toGd h1 h2
    have is := stB_ok (X := X) (l := p.line) g.sr ia.1 h3
    exact ss_asg ia.2.1 ig.1 (gT_go t) is.1 is.2 ig.2
  | .asgLc i elt t it tst own, C, Γ, X, W, sc, z, g, h => by
    rw [mtS] at h
    obtain ⟨t', v, spos, rfl, h⟩ := onAssign1_inv h
    obtain ⟨y, py, rfl, h⟩ := onName_inv h
    obtain ⟨hl, h⟩ := ba h
    obtain ⟨hy, h⟩ := ba h
    obtain ⟨hyl, h⟩ := ba h
    rw [mtE] at h
    obtain ⟨elt', gs, scope, p, rfl, h⟩ := onLc_inv h
    obtain ⟨tg', iter', ifs', rfl, h⟩ := onG1_inv h
    obtain ⟨h1, h⟩ := ba h
    obtain ⟨h2, h⟩ := ba h
    obtain ⟨h3, h⟩ := ba h
    obtain ⟨h4, h⟩ := ba h
    obtain ⟨h5, h⟩ := ba h
    obtain ⟨h6, h7⟩ := ba h
    have hl' : ((py.line == p.line) && !(scope.names.any fun (n, k) => n == y && (k == .local || k == .cell))) = true := hl
    obtain ⟨l1, l2⟩ := ba hl'
    have hN : X.N.Nodup := by rw [g.nN]; exact g.nd
    have bk : BlkOk X.N X.env.scope scope own := by rw [g.nN]; exact blkR g.sr h2
    obtain ⟨h50, h5⟩ := ba h5
    have ii := sdI it (tg := tg') g.toGd h5 h50
    exact ss_setLc (g.calm h1).1 hN (by rw [g.nN]; exact of_decide_eq_true hy) (g.sr.lc y (of_decide_eq_true hyl)) (sw_true g.sr.kind (g.sr.lc y (of_decide_eq_true hyl)) l1 (by simpa using l2)) ii.2 bk (fun s H Ca cl fp => (pgT (g.toGd.blk h1 bk.kind s H cl Ca fp) h1 h4).1) (gT_go t) (fun i hi => of_decide_eq_true (List.all_eq_true.mp h3 i hi))
      (fun s H Ca cl fp => sdIfs tst (g.toGd.blk h1 bk.kind s H cl Ca fp) h6) (fun s H Ca cl fp => (sdE elt (g.toGd.blk h1 bk.kind s H cl Ca fp) h7).2.1) fun x => pl_fold ii.1 X.env x
  | .setI o i v, C, Γ, X, W, sc, z, g, h => by
    rw [mtS] at h
    obtain ⟨t', v', p, rfl, h⟩ := onAssign1_inv h
    obtain ⟨o', i', p2, rfl, h⟩ := onSub_inv h
    obtain ⟨h2, h⟩ := ba h
    obtain ⟨h3, h4⟩ := ba h
    have iv := sdE v g.toGd h4
    have ii := sdE i g.toGd h3
    exact ss_setI g.un (sdE o g.toGd h2).2.1 ii.2.1 iv.2.1 (setI_has ii.1) (show swapsWithSole [.Subscript o' i' p2] v' p.line X.env = pure false from pl_swapS iv.1 o' i' p2 p.line X.env) rfl rfl
  | .setF f o v, C, Γ, X, W, sc, z, g, h => by
    rw [mtS] at h
    obtain ⟨t', v', p, rfl, h⟩ := onAssign1_inv h
    obtain ⟨o', x, p2, rfl, h⟩ := onAttr_inv h
    obtain ⟨h1, h⟩ := ba h
    obtain ⟨h2, h⟩ := ba h
    obtain ⟨h3, h⟩ := ba h
    obtain ⟨h5, h6⟩ := ba h
    obtain rfl := of_decide_eq_true h1
    have hf := of_decide_eq_true h2
    have iv := sdE v g.toGd h6
    exact ss_fld hf (g.fx.cl h3).1 ((g.fx.cl h3).2 f hf) (sdE o g.toGd h5).2.1 iv.2.1 (pl_swapA iv.1 _ _ _ _ _)
  | .augN i a, C, Γ, X, W, sc, z, g, h => by
    rw [mtS] at h
    obtain ⟨t', v', p, rfl, h⟩ := onAug_inv h
    obtain ⟨x, p2, rfl, h⟩ := onName_inv h
    obtain ⟨h1, h⟩ := ba h
    obtain ⟨h2, h3⟩ := ba h
    obtain ⟨l1, l2⟩ := g.toGd.loc h2
    exact ss_aug (by rw [g.nN]; exact g.nd) (by rw [g.nN]; exact of_decide_eq_true h1) l1 (sdE a g.toGd h3).2.1 l2
  | .augF f o a, C, Γ, X, W, sc, z, g, h => by
    rw [mtS] at h
    obtain ⟨t', v', p, rfl, h⟩ := onAug_inv h
    obtain ⟨o', x, p2, rfl, h⟩ := onAttr_inv h
    obtain ⟨h1, h⟩ := ba h
    obtain ⟨h2, h⟩ := ba h
    obtain ⟨h3, h⟩ := ba h
    obtain ⟨h5, h6⟩ := ba h
    obtain rfl := of_decide_eq_true h1
    have hf := of_decide_eq_true h2
    exact ss_augF hf (g.fx.cl h3).1 ((g.fx.cl h3).2 f hf) (sdE o g.toGd h5).2.1 (sdE a g.toGd h6).2.1
  | .augI o k0 a, C, Γ, X, W, sc, z, g, h => by
    rw [mtS] at h
    obtain ⟨t', v', p, rfl, h⟩ := onAug_inv h
    obtain ⟨o', i', p2, rfl, h⟩ := onSub_inv h
    obtain ⟨c, j, p3, rfl, h⟩ := onConst_inv h
    obtain ⟨h1, h⟩ := ba h
    obtain ⟨h5, h6⟩ := ba h
    obtain rfl := of_decide_eq_true h1
    exact ss_augI g.un (sdE o g.toGd h5).2.1 (sdE a g.toGd h6).2.1
  | .expr a, C, Γ, X, W, sc, z, g, h => by
    rw [mtS] at h
    obtain ⟨v, p, rfl, h⟩ := onExpr_inv h
    obtain ⟨h1, h2⟩ := ba h
    have ia := sdE a g.toGd h2
    exact ss_expr ia.2.1 (pl_swap ia.1 h1 _ _ _)
  | .ret a, C, Γ, X, W, sc, z, g, h => by
    rw [mtS] at h
    obtain ⟨v, p, rfl, h⟩ := onRet_inv h
    obtain ⟨v', rfl, h⟩ := onSome_inv h
    exact ss_ret (sdE a g.toGd h).2.1
  | .retN, C, Γ, X, W, sc, z, g, h => by
    rw [mtS] at h
    obtain ⟨v, p, rfl, h⟩ := onRet_inv h
    obtain rfl := Option.isNone_iff_eq_none.mp h
    exact ss_retN
  | .pass, C, Γ, X, W, sc, z, g, h => by
    rw [mtS] at h
    obtain ⟨p, rfl⟩ := isPass_inv h
    exact ss_pass
  | .cont, C, Γ, X, W, sc, z, g, h => by
    rw [mtS] at h
    obtain ⟨p, rfl⟩ := isCont_inv h
    exact ss_cont
  | .ifS c a b, C, Γ, X, W, sc, z, g, h => by
    rw [mtS] at h
    obtain ⟨c', a', b', p, rfl, h⟩ := onIfS_inv h
    obtain ⟨h1, h⟩ := ba h
    obtain ⟨h2, h3⟩ := ba h
    exact ss_if (sdE c g.toGd h1).2.2 (sdB a g h2) (sdB b g h3)
  | .forS t it b, C, Γ, X, W, sc, z, g, h => by
    rw [mtS] at h
    obtain ⟨t', i', b', p, rfl, h⟩ := onFor_inv h
    obtain ⟨h1, h⟩ := ba h
    obtain ⟨h2, h⟩ := ba h
    obtain ⟨h3, h4⟩ := ba h
    obtain ⟨h30, h3⟩ := ba h3
    have ii := sdI it (tg := t') g.toGd h3 h30
    exact ss_for g.own (g.calm h1).1 ii.2 (pgT g.toGd h1 h2).1 (gT_go t) (sdB b g h4) fun x => pl_fold ii.1 X.env x
  | .whileS n c b, C, Γ, X, W, sc, z, g, h => by
    rw [mtS] at h
    obtain ⟨c', b', p, rfl, h⟩ := onWhile_inv h
    obtain ⟨h1, h2⟩ := ba h
    exact ss_while n g.own (sdE c g.toGd h1).2.2 (sdB b g h2)
  | .raise c, C, Γ, X, W, sc, z, g, h => by
    rw [mtS] at h
    obtain ⟨x, p1, mt, j, p2, p3, p, rfl, h⟩ := onRaise_inv h
    obtain ⟨h1, h⟩ := ba h
    obtain ⟨h2, h⟩ := ba h
    obtain ⟨h3, h4⟩ := ba h
    obtain rfl := of_decide_eq_true h2
    exact ss_raise (g.calm h1).1 g.tk (g.fx.xc c (of_decide_eq_true h4)) (g.toGd.gl h3)
  | .tryS b hs, C, Γ, X, W, sc, z, g, h => by
    rw [mtS] at h
    obtain ⟨b', hs', p, rfl, h⟩ := onTry_inv h
    obtain ⟨ht, h⟩ := ba h
    obtain ⟨h1, h⟩ := ba h
    obtain ⟨h2, h3⟩ := ba h
    have hh := sdH hs g h2
    cases hs' with
    | nil => cases h3
    | cons h0 hr => exact ss_try g.fx.xm hh.2 g.stk g.frm g.tk (fun W' pn xe tk ow => sdB b (g.tr (by simpa using ht) tk ow) h1) hh.1
  | .tryAs b c i hd, C, Γ, X, W, sc, z, g, h => by
    rw [mtS] at h
    obtain ⟨b', hs', p, rfl, h⟩ := onTry_inv h
    obtain ⟨x, np, n, b2, p2, rfl, h⟩ := onHdAs_inv h
    obtain ⟨h1, h⟩ := ba h
    obtain ⟨h2, h⟩ := ba h
    obtain ⟨h3, h⟩ := ba h
    obtain ⟨h4, h⟩ := ba h
    obtain ⟨h5, h⟩ := ba h
    obtain ⟨h6, h⟩ := ba h
    obtain ⟨h7, h⟩ := ba h
    obtain ⟨h8, h⟩ := ba h
    obtain ⟨h9, h10⟩ := ba h
    obtain rfl := of_decide_eq_true h1
    have hc := of_decide_eq_true h3
    cases b2 with
    | nil => cases h7
    | cons b0 su =>
      exact ss_tryAs (hd := fun ac => eB ⟨Γ.F, Γ.ar, some ac⟩ C.xs hd) hc g.fx.xm g.stk g.frm (by rw [g.nN]; exact g.nd) (by rw [g.nN]; exact of_decide_eq_true h4) (g.sr.lc n (of_decide_eq_true h5)) ⟨g.toGd.gl h2, xname_plain c, .inl (g.fx.xc c hc).g⟩ g.tk
        (fun W' pn xe tk ow => sdB b (g.tr (by simpa using h8) tk ow) h9) fun a c' oe pn hc' hz hf => sdB hd (C := calmAs C) (g.suiteAs h6 hc' hz hf) h10
theorem sdB : ∀ (mb : MB) {C : Ct} {Γ : Fns} {X : Cx} {W : WX} {sc : Scope} {z : List Stmt}, Gs C Γ ps k X W N sc → mtB C N mb sc z = true → SB X W z (eB Γ C.xs mb)
  | .nil, C, Γ, X, W, sc, z, g, h => by
    rw [mtB] at h
    obtain rfl := List.isEmpty_iff.mp h
    exact sb_nil
  | .cons s r, C, Γ, X, W, sc, z, g, h => by
    rw [mtB] at h
    obtain ⟨s', r', rfl, h⟩ := onSC_inv h
    obtain ⟨h1, h2⟩ := ba h
    exact sb_cons (sdS s g h1) (sdB r g h2)
theorem sdH : ∀ (mh : MHs) {C : Ct} {Γ : Fns} {X : Cx} {W : WX} {sc : Scope} {z : List ExceptHandler}, Gs C Γ ps k X W N sc → mtH C N mh sc z = true → HdsOk X z (hdL X.K (eH Γ C.xs mh)) ∧ ∀ h ∈ eH Γ C.xs mh, h.1 ∈ C.xs
  | .nil, C, Γ, X, W, sc, z, g, h => by
    rw [mtH] at h
    obtain rfl := List.isEmpty_iff.mp h
    exact ⟨.nil, fun _ h => (nomatch h)⟩
  | .cons c b r, C, Γ, X, W, sc, z, g, h => by
    rw [mtH] at h
    obtain ⟨x, np, b', p, r', rfl, h⟩ := onHd_inv h
    obtain ⟨h1, h⟩ := ba h
    obtain ⟨h2, h⟩ := ba h
    obtain ⟨h3, h⟩ := ba h
    obtain ⟨h4, h⟩ := ba h
    obtain ⟨h5, h6⟩ := ba h
    obtain rfl := of_decide_eq_true h1
    have hc := of_decide_eq_true h3
    have ir := sdH r g h6
    cases b' with
    | nil => cases h4
    | cons b0 su =>
      refine ⟨.cons ⟨g.toGd.gl h2, xname_plain c, .inl (g.fx.xc c hc).g⟩ (fun a oe cls d pn _ _ => sdB b (C := calmOff C) (g.suite a ((a, oe) :: pn)) h5) ir.1, fun z hz => ?_⟩
      rcases List.mem_cons.mp hz with q | q
      · rw [q]; exact hc
      · exact ir.2 z q
end
end
end Mw
namespace Mw
open PySem L2
open PyProof.Rows hiding St
def startD (n : Nat) (ds : List D) : En := ds.map some ++ List.replicate (n - ds.length) none
def fnRun (n : Nat) (b : MS0) : FM := fun ds G => match b (startD n ds) G with
  | .nx _ G' => .ok .non G'
  | .rt d G' => .ok d G'
  | .exc c _ G' => .exc c G'
  | _ => .bad
theorem envs_start {K : PySem.W.Frag} {p : List Addr} {H : Hp} {N : List Str} {vs : List V} {ds : List D} (h : Dens K p H vs ds) : Envs K p H (L2.start N vs) (startD N.length ds) := by
  have hl := h.length
  refine ⟨by simp [L2.start, startD, hl], fun i d e => ?_⟩
  unfold startD at e
  unfold L2.start
  by_cases hi : i < ds.length
  · rw [List.getElem?_append_left (by simpa using hi), List.getElem?_map] at e
    cases hd : ds[i]? with
    | none => rw [hd] at e; cases e
    | some d' =>
      rw [hd] at e
      simp at e
      subst e
      obtain ⟨v, h1, h2⟩ := h.get hd
      exact ⟨v, by rw [List.getElem?_append_left (by simpa [hl] using hi), List.getElem?_map, h1]; rfl, h2⟩
  · rw [List.getElem?_append_right (by simpa using hi)] at e
    rw [List.getElem?_replicate] at e
    split at e <;> simp at e
section
variable {C : Ct} {Γ : Fns} {ps : Nat → List Str} {k : Nat} {N : List Str} {P : Program} {w : World} {K : PySem.W.Frag} {mg : Str → Option Value} {base : Heap}
theorem fn_ok {x qual : Str} {params : Arguments} {body : List Stmt} {scope : Scope} {f : Addr} {fd : FuncData} {psf : List Str} {mb : MB} (F : FunD K x qual params body scope [] [] f fd) (hc : (C8.scC N psf scope && mtB C N mb scope body) = true) (fx : Fx C Γ ps k P w K mg base) (hcm : C.calm = true := by rfl) :
    FnOk P w K mg base (L2.CX P w) (k + 1) f fd psf (spM K psf.length (fnRun N.length (eB Γ C.xs mb))) := by
  obtain ⟨h1, h2⟩ := ba hc
  have S := C8.fnScope_by h1
  refine F.ok S (fun vs H Q E ⟨p, G, ds, rl, dn, hl, h⟩ => by rw [dn.length, hl]) fun cdv A outer s H vs Q E hr ⟨p, G, ds, rl, dn, hl, h⟩ => ?_
  have g : Gs C Γ ps k (cxOf (L2.CX P w) P w K mg base N qual scope f cdv A outer s H E) (fun c d _ H => E c d H) N scope :=
    { fx := fx, nN := rfl, nd := S.nd, sr := ⟨S.kind, fun _ h => h, fun _ h => h, fun _ h => h, fun _ h => .inl h⟩, tk := takes_of rfl rfl rfl rfl, un := by have := hr.un; show (A.deeper _).units + 65 < cLine; omega, calm := fun _ => ⟨rfl, hr⟩, fnc := fun _ _ => rfl, ex := (fun z => by rw [hcm] at z; cases z), own := passes_of rfl, stk := rfl, frm := rfl }
  refine ⟨_, sdB mb g h2, p, G, startD N.length ds, rl, envs_start dn, ?_⟩
  show CoS K (fun c d _ H => E c d H) p H (eB Γ C.xs mb (startD N.length ds) G) _
  unfold fnRun at h
  cases hm : eB Γ C.xs mb (startD N.length ds) G with
  | nx e1 G1 => rw [hm] at h; exact fun q σ' H' pr t r1 _ => h q H' .non pr t r1 .non
  | rt d G1 => rw [hm] at h; exact h
  | exc c e1 G1 => rw [hm] at h; exact fun q σ' H' pr t r1 _ => h q H' pr t r1
  | bk e1 G1 => rw [hm] at h; exact h.elim
  | ct e1 G1 => rw [hm] at h; exact h.elim
  | bad => rw [hm] at h; exact h.elim
end
structure Fe where
  meth : Bool
  name : Str
  ps : List Str
  F : FM
def badF : FM := fun _ _ => .bad
def fe0 : Fe := ⟨false, "", [], badF⟩
abbrev Fl := List (Nat × Fe)
def feAt (L : Fl) (j : Nat) : Fe := (L.lookup j).getD fe0
def fnsOf (L : Fl) : Fns := ⟨fun j => (feAt L j).F, fun j => (feAt L j).ps.length, none⟩
def psOf (L : Fl) (j : Nat) : List Str := (feAt L j).ps
def hasB (L : Fl) (b : Bool) (j : Nat) : Bool := match L.lookup j with
  | some f => f.meth == b
  | none => false
def isIni (f : Fe) : Bool := decide (f.name = "__init__")
def hasM (L : Fl) (b : Bool) (j : Nat) : Bool := match L.lookup j with
  | some f => f.meth && (isIni f == b)
  | none => false
def ctOf (L : Fl) (S : Sx) : Ct := ⟨fun j => (feAt L j).name, (L.map (·.1)).filter (hasB L false), (L.map (·.1)).filter (hasM L false), S.bl, S.gis, S.gss, S.xs, S.cls, true, (L.map (·.1)).filter (hasM L true), S.tabs, S.ix, false⟩
structure FeOk (P : Program) (w : World) (K : PySem.W.Frag) (mg : Str → Option Value) (base : Heap) (k : Nat) (f : Fe) : Prop where
  fn : f.meth = false → ∃ a fd, mg f.name = some (.ref a) ∧ PySem.W.keepIn K (.ref a) = true ∧ Binds K fd f.ps [] ∧ FnOk P w K mg base (L2.CX P w) k a fd f.ps (spM K f.ps.length f.F)
  me : f.meth = true → isIni f = false → ∃ a fd, Meth K (He.ga K cname) f.name a ∧ Binds K fd f.ps [] ∧ FnOk P w K mg base (L2.CX P w) k a fd f.ps (spM K f.ps.length f.F)
  ini : f.meth = true → isIni f = true → ∃ j a fd, j + 1 ≤ k ∧ Mk K (He.ga K cname) a ∧ Binds K fd f.ps [] ∧ FnOk P w K mg base (L2.CX P w) j a fd f.ps (spM K f.ps.length f.F)
structure Bs (S : Sx) (K : PySem.W.Frag) (w : World) (mg : Str → Option Value) : Prop where
  cg : S.cls = true → mg cname = some (.ref (He.ga K cname))
  bl : ∀ x ∈ S.bl, mg x = none
  gi : ∀ x i, (x, i) ∈ S.gis → ∃ t, mg x = some (.int i t)
  gs : ∀ x i, (x, i) ∈ S.gss → ∃ t, mg x = some (.str i t)
  xc : ∀ c ∈ S.xs, ExcF K mg c
  xm : ∀ c ∈ S.xs, ∀ h ∈ S.xs, PySem.W.exmOne K (.ref (He.ga K (xname c))) (.ref (He.ga K (xname h))) = some (exSub c h)
  cl : S.cls = true → Cls K (He.ga K cname) ∧ ∀ f, f < 8 → NoAttr K (He.ga K cname) (fname f)
  tb : ∀ x kvs, (x, kvs) ∈ S.tabs → TabF K w mg x kvs
  ix : S.ix = true → ∀ c ∈ S.xs, ExcC K (He.ga K (xname c)) ∧ PySem.W.kitOne K (.ref (He.ga K (xname c))) (.type "ValueError") = some true
/-- what a head says beside the facts by names -/
structure Extra (S : Sx) (K : PySem.W.Frag) (w : World) (mg : Str → Option Value) : Prop where
  tb : ∀ x kvs, (x, kvs) ∈ S.tabs → TabF K w mg x kvs
  ix : S.ix = true → ixB K S.xs = true
abbrev WdOk (P : Program) (w : World) (K : PySem.W.Frag) (mg : Str → Option Value) (base : Heap) (k : Nat) (L : Fl) : Prop := ∀ f ∈ L, FeOk P w K mg base k f.2
section
variable {P : Program} {w : World} {K : PySem.W.Frag} {mg : Str → Option Value} {base : Heap} {k : Nat} {L : Fl} {S : Sx}
theorem FeOk.mono {f : Fe} {j : Nat} (h : FeOk P w K mg base j f) (l : j ≤ k) : FeOk P w K mg base k f := ⟨fun z => by
  obtain ⟨a, fd, h1, h2, h3, h4⟩ := h.fn z
  exact ⟨a, fd, h1, h2, h3, h4.mono l⟩, fun z z2 => by
  obtain ⟨a, fd, h1, h2, h3⟩ := h.me z z2
  exact ⟨a, fd, h1, h2, h3.mono l⟩, fun z z2 => by
  obtain ⟨i, a, fd, h0, h1, h2, h3⟩ := h.ini z z2
  exact ⟨i, a, fd, Nat.le_trans h0 l, h1, h2, h3⟩⟩
theorem WdOk.nil : WdOk P w K mg base k [] := fun _ h => nomatch h
theorem WdOk.add {f : Fe} {j : Nat} (h : WdOk P w K mg base k L) (g : FeOk P w K mg base (k + 1) f) : WdOk P w K mg base (k + 1) ((j, f) :: L) := fun z hz => by
  rcases List.mem_cons.mp hz with q | q
  · rw [q]; exact g
  · exact (h z q).mono (Nat.le_succ k)
theorem WdOk.add2 {f : Fe} {j : Nat} (h : WdOk P w K mg base k L) (g : FeOk P w K mg base (k + 2) f) : WdOk P w K mg base (k + 2) ((j, f) :: L) := fun z hz => by
  rcases List.mem_cons.mp hz with q | q
  · rw [q]; exact g
  · exact (h z q).mono (by omega)
theorem mem_lookup {L : Fl} {j : Nat} {f : Fe} (h : L.lookup j = some f) : (j, f) ∈ L := by
  induction L with
  | nil => cases h
  | cons a L ih =>
    obtain ⟨i, g⟩ := a
    rw [List.lookup_cons] at h
    split at h
    · rename_i e
      cases h
      rw [eq_of_beq e]
      exact List.mem_cons_self
    · exact List.mem_cons_of_mem _ (ih h)
theorem fx_of (h : WdOk P w K mg base k L) (b : Bs S K w mg) : Fx (ctOf L S) (fnsOf L) (psOf L) k P w K mg base where
  ar := fun _ => rfl
  fn := fun f hf => by
    have h2 := (List.mem_filter.mp hf).2
    unfold hasB at h2
    split at h2
    · rename_i g e
      have q := (h _ (mem_lookup e)).fn (by simpa using h2)
      have ef : feAt L f = g := by unfold feAt; rw [e]; rfl
      show ∃ a fd, mg (feAt L f).name = _ ∧ _
      rw [show (fnsOf L).F f = (feAt L f).F from rfl, show psOf L f = (feAt L f).ps from rfl, ef]
      exact q
    · cases h2
  me := fun f hf => by
    have h2 := (List.mem_filter.mp hf).2
    unfold hasM at h2
    split at h2
    · rename_i g e
      obtain ⟨h3, h4⟩ := Bool.and_eq_true_iff.mp h2
      have q := (h _ (mem_lookup e)).me h3 (by simpa using h4)
      have ef : feAt L f = g := by unfold feAt; rw [e]; rfl
      show ∃ a fd, Meth K _ (feAt L f).name a ∧ _
      rw [show (fnsOf L).F f = (feAt L f).F from rfl, show psOf L f = (feAt L f).ps from rfl, ef]
      exact q
    · cases h2
  ini := fun f hf => by
    have h2 := (List.mem_filter.mp hf).2
    unfold hasM at h2
    split at h2
    · rename_i g e
      obtain ⟨h3, h4⟩ := Bool.and_eq_true_iff.mp h2
      have q := (h _ (mem_lookup e)).ini h3 (by simpa using h4)
      have ef : feAt L f = g := by unfold feAt; rw [e]; rfl
      rw [show (fnsOf L).F f = (feAt L f).F from rfl, show psOf L f = (feAt L f).ps from rfl, ef]
      exact q
    · cases h2
  cg := b.cg
  bl := b.bl
  gi := b.gi
  gs := b.gs
  xc := b.xc
  xm := b.xm
  cl := b.cl
  tb := b.tb
  ix := b.ix
end
section
variable {S : Sx} {gl ms : List Str} {fn : List He.DefD} {K : PySem.W.Frag} {w : World} {h : Heap} {mg : Str → Option Value}
theorem fa_all {fa : List He.Fa} (c : He.SaysD fa fn K) {f : He.Fa} (hf : f ∈ fa) : f.ok K = true := by
  have c1 := (ba (show ((fa.all fun f => f.ok K) && fn.all fun d => d.ok K) = true from congrArg (fun z : He.AlD => z.1) c)).1
  exact List.all_eq_true.mp c1 f hf
theorem fa_glo (X : K.In h) (G : h.Ns mainGlobals mg) (c : He.SaysD (faOf S gl ms) fn K) {x : Str} (hx : x ∈ gl) : mg x = some (.ref (He.ga K x)) :=
  He.glo_ok X G (fa_all c (by unfold faOf; exact List.mem_append_left _ (List.mem_append_right _ (List.mem_map_of_mem hx))))
theorem fa_meth (c : He.SaysD (faOf S gl ms) fn K) {x : Str} (hx : x ∈ ms) : Meth K (He.ga K cname) x (He.ma K (He.ga K cname) x) :=
  He.meth_ok (fa_all c (by unfold faOf; exact List.mem_append_right _ (List.mem_map.mpr ⟨x, hx, rfl⟩)))
theorem fa_mkr (hc : S.cls = true) (c : He.SaysD (faOf S gl ms) fn K) : Mk K (He.ga K cname) (He.ma K (He.ga K cname) "__init__") :=
  He.mkr_ok (fa_all c (by
    unfold faOf
    simp only [List.mem_append]
    rw [if_pos hc]
    exact .inl (.inl (.inr (by simp)))))
theorem ixB_ok (xc : ∀ c ∈ S.xs, ExcF K mg c) (h : ixB K S.xs = true) : ∀ c ∈ S.xs, ExcC K (He.ga K (xname c)) ∧ PySem.W.kitOne K (.ref (He.ga K (xname c))) (.type "ValueError") = some true := fun c hc => by
  unfold ixB at h
  obtain ⟨h1, h⟩ := ba h
  obtain ⟨h2, h⟩ := ba h
  have h3 := List.all_eq_true.mp h c hc
  unfold exB at h3
  obtain ⟨a1, h3⟩ := ba h3
  obtain ⟨a2, h3⟩ := ba h3
  obtain ⟨a3, h3⟩ := ba h3
  obtain ⟨a4, h3⟩ := ba h3
  obtain ⟨a5, a6⟩ := ba h3
  exact ⟨⟨eq_of_beq a1, eq_of_beq a2, (xc c hc).b, a3, eq_of_beq a4, eq_of_beq h1, eq_of_beq h2, eq_of_beq a5⟩, eq_of_beq a6⟩
theorem bs_ofT (X : K.In h) (G : h.Ns mainGlobals mg) (c : He.SaysD (faOf S gl ms) fn K) (ht : Extra S K w mg) : Bs S K w mg where
  tb := ht.tb
  ix := fun z => ixB_ok (fun e hx => by
    have h1 := He.glo_ok X G (fa_all c (f := He.Fa.glo (xname e)) (by
      unfold faOf
      simp only [List.mem_append]
      exact .inl (.inl (.inl (.inl (.inl (.inr (List.mem_map.mpr ⟨e, hx, rfl⟩))))))))
    obtain ⟨h2, h3, h4, h5⟩ := He.exc_ok (fa_all c (f := He.Fa.exc (xname e)) (by
      unfold faOf
      simp only [List.mem_append]
      exact .inl (.inl (.inl (.inl (.inr (List.mem_map.mpr ⟨e, hx, rfl⟩)))))))
    exact ⟨h1, h2, h3, h4, h5⟩) (ht.ix z)
  cg := fun hc => He.glo_ok X G (fa_all c (f := He.Fa.glo cname) (by
    unfold faOf
    simp only [List.mem_append]
    rw [if_pos hc]
    exact .inl (.inl (.inr (by simp)))))
  bl := fun x hx => He.free_ok X G (fa_all c (by
    unfold faOf
    simp only [List.mem_append]
    exact .inl (.inl (.inl (.inl (.inl (.inl (.inl (.inl (List.mem_map_of_mem hx))))))))))
  gi := fun x i hx => He.int_ok X G (fa_all c (f := He.Fa.int x i) (by
    unfold faOf
    simp only [List.mem_append]
    exact .inl (.inl (.inl (.inl (.inl (.inl (.inl (.inr (List.mem_map.mpr ⟨(x, i), hx, rfl⟩))))))))))
  gs := fun x i hx => He.str_ok X G (fa_all c (f := He.Fa.str x i) (by
    unfold faOf
    simp only [List.mem_append]
    exact .inl (.inl (.inl (.inl (.inl (.inl (.inr (List.mem_map.mpr ⟨(x, i), hx, rfl⟩)))))))))
  xc := fun e hx => by
    have h1 := He.glo_ok X G (fa_all c (f := He.Fa.glo (xname e)) (by
      unfold faOf
      simp only [List.mem_append]
      exact .inl (.inl (.inl (.inl (.inl (.inr (List.mem_map.mpr ⟨e, hx, rfl⟩))))))))
    obtain ⟨h2, h3, h4, h5⟩ := He.exc_ok (fa_all c (f := He.Fa.exc (xname e)) (by
      unfold faOf
      simp only [List.mem_append]
      exact .inl (.inl (.inl (.inl (.inr (List.mem_map.mpr ⟨e, hx, rfl⟩)))))))
    exact ⟨h1, h2, h3, h4, h5⟩
  xm := fun e hx y hy => He.exm_ok (fa_all c (by
    unfold faOf
    simp only [List.mem_append]
    exact .inl (.inl (.inl (.inr (List.mem_flatMap.mpr ⟨e, hx, List.mem_map.mpr ⟨y, hy, rfl⟩⟩))))))
  cl := fun hc => by
    have hm : ∀ f ∈ [He.Fa.cls cname, He.Fa.glo cname, He.Fa.mkr cname] ++ (List.range 8).map (fun f => He.Fa.noat cname (fname f)), f.ok K = true := fun f hf => fa_all c (by
      unfold faOf
      simp only [List.mem_append]
      rw [if_pos hc]
      exact .inl (.inl (.inr hf)))
    exact ⟨He.cls_ok (hm (.cls cname) (by simp)), fun f hf => He.noat_ok (hm (.noat cname (fname f)) (List.mem_append_right _ (List.mem_map.mpr ⟨f, List.mem_range.mpr hf, rfl⟩)))⟩
theorem bs_of (X : K.In h) (G : h.Ns mainGlobals mg) (c : He.SaysD (faOf S gl ms) fn K) (h0 : S.tabs = []) (h1 : S.ix = false) : Bs S K w mg := bs_ofT X G c ⟨(fun x kvs hx => by rw [h0] at hx; cases hx), (fun z => by rw [h1] at z; cases z)⟩
theorem find_str {P : Params} {z : Str} : ∀ {l : List DictEntry} {ks : List Str}, l.map He.keyOf = He.keysIn P ks → z ∉ ks → l.find? (·.key.isStr z) = none ∧ l.any (·.refKey) = false
  | [], _, _, _ => ⟨rfl, rfl⟩
  | e :: r, [], h, _ => by cases h
  | e :: r, k :: ks, h, hz => by
    have h1 : He.keyOf e :: r.map He.keyOf = some (k, PyData.keyHash P k) :: He.keysIn P ks := h
    injection h1 with h2 h3
    obtain ⟨i1, i2⟩ := find_str h3 (fun q => hz (List.mem_cons_of_mem _ q))
    unfold He.keyOf at h2
    split at h2
    · rename_i x t q
      obtain ⟨h5, _⟩ := Prod.mk.inj (Option.some.inj h2)
      subst h5
      have hne : (e.key.isStr z) = false := by
        rw [q]
        show (x == z) = false
        exact beq_eq_false_iff_ne.mpr fun e2 => hz (by rw [← e2]; exact List.mem_cons_self)
      refine ⟨?_, ?_⟩
      · rw [List.find?_cons, hne]; exact i1
      · rw [List.any_cons, i2]
        have : e.refKey = false := by
          unfold DictEntry.refKey
          rw [q]
        rw [this]; rfl
    · cases h2
theorem tab_of {x : Str} {kvs : List (Str × Int)} (hm : mg x = some (.ref (He.ga K x))) (hd : He.dicW K (He.ga K x) = some (He.keysIn w.params (kvs.map (·.1)))) (hv : He.valsB K (He.ga K x) (kvs.map fun q => (q.1, He.Dv.int q.2)) = true) : TabF K w mg x kvs := by
  obtain ⟨es, n, kd⟩ := He.dicW_ok hd
  refine ⟨_, es, n, hm, kd, fun z => ?_⟩
  cases hz : kvs.lookup z with
  | some i =>
    have hmem : (z, i) ∈ kvs := by
      clear hd hv kd
      induction kvs with
      | nil => cases hz
      | cons a r ih =>
        obtain ⟨a1, a2⟩ := a
        rw [List.lookup_cons] at hz
        split at hz
        · rename_i e
          cases hz
          rw [eq_of_beq e]
          exact List.mem_cons_self
        · exact List.mem_cons_of_mem _ (ih hz)
    obtain ⟨u, h1, h2⟩ := He.valsB_ok hv (q := (z, He.Dv.int i)) (List.mem_map.mpr ⟨(z, i), hmem, rfl⟩)
    obtain ⟨t, rfl⟩ : ∃ t, u = .int i t := h2
    exact .inl ⟨i, t, rfl, h1⟩
  | none =>
    refine .inr ⟨rfl, ?_⟩
    have hnot : z ∉ kvs.map (·.1) := by
      clear hd hv kd
      induction kvs with
      | nil => intro q; cases q
      | cons a r ih =>
        obtain ⟨a1, a2⟩ := a
        rw [List.lookup_cons] at hz
        split at hz
        · cases hz
        · rename_i e
          intro q
          rw [List.map_cons] at q
          rcases List.mem_cons.mp q with q | q
          · subst q; simp at e
          · exact ih hz q
    have e1 := kd.at_
    unfold He.dicW at hd
    rw [e1] at hd
    dsimp only at hd
    split at hd
    · have e2 := find_str (Option.some.inj hd) hnot
      unfold PySem.W.nsIn
      rw [e1]
      dsimp only
      rw [e2.1]
      dsimp only
      rw [e2.2]
      rfl
    · cases hd
end
theorem rel_nil {K : PySem.W.Frag} {H : Hp} : Rel K [] [] H := ⟨rfl, .nil, fun n a o e => by simp at e⟩
theorem law_sp {K : PySem.W.Frag} {F : FM} {n : Nat} (hF : ∀ ns : List Int, ns.length ≤ n → ∃ G, F [.scr ns] [] = .ok (.bl true) G) (H : Hp) (a : Addr) (ns : List Int) (hl : ns.length ≤ n) (ho : Only H) (hs : SqL K H a (ns.map V.int)) :
    spM K 1 F [.ref a] H (fun v _ => v = .bl true) fun _ _ _ => False := by
  obtain ⟨G, e⟩ := hF ns hl
  have sc : ScrAt K H a ns := by
    rcases hs with (h | ⟨o, h⟩) | h
    · rcases ho a with z | ⟨o, xs, z⟩
      · rw [z] at h; cases h
      · rw [z] at h; cases h
    · exact .inl ⟨o, h⟩
    · exact .inr h
  refine ⟨[], [], [.scr ns], rel_nil, .cons (.scr sc) .nil, rfl, ?_⟩
  rw [e]
  exact fun q H' v pr t r1 dv => by cases dv; rfl
theorem noCX {P : Program} {w : World} (H : Hp) (s : Shared) (e : Value) (s' : Shared) (h : L2.CX P w [] H s (fun _ _ _ => False) e s') : False := by
  obtain ⟨_, _, _, _, _, _, _, _, _, _, _, _, z⟩ := h
  exact z
theorem walk_W {l : PySem.W.OpenLaw} {n k : Nat} {q : Program} {loose : List Str} {XP : (Str → Option Value) → Heap → Prop} {YP : World → Heap → Prop} {d : DefRec} {CX : World → CXT} {x : Str}
    (hn : l.most = some n) (hn2 : n ≤ sizeLine) (hdf : d.params.defaults = []) (hr : Room k callerA)
    (F : ∀ (w : World) (mg : Str → Option Value) (fa : Addr) (h : Heap), YP w h → h.Ns mainGlobals mg → mg d.name = some (.ref fa) →
      ∃ (K : PySem.W.Frag) (fd : FuncData) (sp : Sp), K.In h ∧ (∀ (s : Shared) (u : Value), BindsTo s fd ⟨[u], []⟩ [(x, u)]) ∧
        (∀ (H : Hp) (a : Addr) (ns : List Int), ns.length ≤ n → Only H → SqL K H a (ns.map V.int) → sp [.ref a] H (fun v _ => v = .bl true) fun _ _ _ => False) ∧
        ∀ base : Heap, K.In base → base.Ns mainGlobals mg → FnOk l.prog w K mg base (CX w) k fa fd [x] sp)
    (hCX : ∀ (w : World) (H : Hp) (s : Shared) (e : Value) (s' : Shared), CX w [] H s (fun _ _ _ => False) e s' → False) :
    PySem.W.WalkO q loose XP YP l.row.toRowW d [] (fun f vs => PySem.call f vs) := by
  refine Att.attach_call hn hdf fun w s₀ s₁ mg mb fa o pm cd doc a vs ns G Y ho hd hcd hmg hobj hints hlen hg => ?_
  obtain ⟨K, fd, sp, KX, hb, hsp, hF⟩ := F w mg fa _ Y G.T.g hmg
  exact law_call KX G.T.g G.T.b G.T.builtins G.T.nolimit hg hobj hints (Nat.le_trans hlen hn2) hr hF hb (fun H hO hS => hsp H a ns hlen hO hS) fun H e s' => hCX w H s₁ e s'
end Mw
namespace Mw
open PySem L2
open PyProof.Rows hiding St
mutual
def renD (φ : Nat → Nat) : D → D
  | .tup ds => .tup (renDs φ ds)
  | .ref n => .ref (φ n)
  | .non => .non
  | .bl b => .bl b
  | .int i => .int i
  | .str x => .str x
  | .scr ns => .scr ns
  | .exn a c => .exn a c
def renDs (φ : Nat → Nat) : List D → List D
  | [] => []
  | d :: ds => renD φ d :: renDs φ ds
end
mutual
def ltD (m : Nat) : D → Bool
  | .tup ds => ltDs m ds
  | .ref n => decide (n < m)
  | .non => true
  | .bl _ => true
  | .int _ => true
  | .str _ => true
  | .scr _ => true
  | .exn _ _ => true
def ltDs (m : Nat) : List D → Bool
  | [] => true
  | d :: ds => ltD m d && ltDs m ds
end
def ltO (m : Nat) : O → Bool
  | .lst ds => ltDs m ds
  | .dct kvs => ltDs m (kvs.map (·.2))
  | .ins fs => ltDs m (fs.map (·.2))
def renO (φ : Nat → Nat) : O → O
  | .lst ds => .lst (renDs φ ds)
  | .dct kvs => .dct (kvs.map fun x => (x.1, renD φ x.2))
  | .ins fs => .ins (fs.map fun x => (x.1, renD φ x.2))
def Closed (m : Nat) (G : Gp) : Prop := ∀ o ∈ G, ltO m o = true
mutual
theorem renD_id {φ : Nat → Nat} {m : Nat} (h : ∀ i, i < m → φ i = i) : ∀ d, ltD m d = true → renD φ d = d
  | .tup ds, l => by rw [renD, renDs_id h ds (by simpa [ltD] using l)]
  | .ref n, l => by rw [renD, h n (by simpa [ltD] using l)]
  | .non, _ => rfl
  | .bl _, _ => rfl
  | .int _, _ => rfl
  | .str _, _ => rfl
  | .scr _, _ => rfl
  | .exn _ _, _ => rfl
theorem renDs_id {φ : Nat → Nat} {m : Nat} (h : ∀ i, i < m → φ i = i) : ∀ ds, ltDs m ds = true → renDs φ ds = ds
  | [], _ => rfl
  | d :: ds, l => by
    rw [ltDs] at l
    obtain ⟨l1, l2⟩ := ba l
    rw [renDs, renD_id h d l1, renDs_id h ds l2]
end
mutual
theorem ltD_mono {m n : Nat} (h : m ≤ n) : ∀ d, ltD m d = true → ltD n d = true
  | .tup ds, l => by rw [ltD] at l ⊢; exact ltDs_mono h ds l
  | .ref k, l => by rw [ltD] at l ⊢; simp at l ⊢; omega
  | .non, _ => rfl
  | .bl _, _ => rfl
  | .int _, _ => rfl
  | .str _, _ => rfl
  | .scr _, _ => rfl
  | .exn _ _, _ => rfl
theorem ltDs_mono {m n : Nat} (h : m ≤ n) : ∀ ds, ltDs m ds = true → ltDs n ds = true
  | [], _ => rfl
  | d :: ds, l => by
    rw [ltDs] at l ⊢
    obtain ⟨l1, l2⟩ := ba l
    rw [ltD_mono h d l1, ltDs_mono h ds l2]
    rfl
end
theorem ltO_mono {m n : Nat} (h : m ≤ n) (o : O) (l : ltO m o = true) : ltO n o = true := by
  cases o <;> exact ltDs_mono h _ l
theorem renO_id {φ : Nat → Nat} {m : Nat} (h : ∀ i, i < m → φ i = i) (o : O) (l : ltO m o = true) : renO φ o = o := by
  have aux : ∀ {α : Type} (xs : List (α × D)), ltDs m (xs.map (·.2)) = true → xs.map (fun x => (x.1, renD φ x.2)) = xs := fun xs => by
    induction xs with
    | nil => intro _; rfl
    | cons x xs ih =>
      intro l
      rw [List.map_cons, ltDs] at l
      obtain ⟨l1, l2⟩ := ba l
      rw [List.map_cons, renD_id h _ l1, ih l2]
  cases o with
  | lst ds => rw [renO, renDs_id h ds l]
  | dct kvs => rw [renO, aux kvs l]
  | ins fs => rw [renO, aux fs l]
theorem ltDs_all {m : Nat} : ∀ {ds : List D}, ltDs m ds = true ↔ ∀ d ∈ ds, ltD m d = true
  | [] => ⟨(fun _ _ h => nomatch h), fun _ => rfl⟩
  | d :: ds => by
    rw [ltDs, Bool.and_eq_true, ltDs_all (ds := ds)]
    constructor
    · intro h z hz
      rcases List.mem_cons.mp hz with q | q
      · rw [q]; exact h.1
      · exact h.2 z q
    · intro h
      exact ⟨h d List.mem_cons_self, fun z hz => h z (List.mem_cons_of_mem _ hz)⟩
section
variable {K : PySem.W.Frag} {p q : List Addr} {H : Hp} {φ : Nat → Nat} {m : Nat}
mutual
theorem den_lt : ∀ (d : D) {v : V}, Den K p H v d → ltD p.length d = true
  | .tup ds, v, h => by
    obtain ⟨a, vs, rfl, ha, hs⟩ := inv_tup h
    rw [ltD]
    exact dens_lt ds hs
  | .ref n, v, h => by
    obtain ⟨a, rfl, ha⟩ := inv_ref h
    rw [ltD]
    exact decide_eq_true (List.getElem?_eq_some_iff.mp ha).1
  | .non, _, _ => rfl
  | .bl _, _, _ => rfl
  | .int _, _, _ => rfl
  | .str _, _, _ => rfl
  | .scr _, _, _ => rfl
  | .exn _ _, _, _ => rfl
theorem dens_lt : ∀ (ds : List D) {vs : List V}, Dens K p H vs ds → ltDs p.length ds = true
  | [], _, _ => rfl
  | d :: ds, _, h => by
    cases h with
    | cons h1 h2 =>
      rw [ltDs, den_lt d h1, dens_lt ds h2]
      rfl
end
theorem rel_closed {G : Gp} (r : Rel K p G H) : Closed G.length G := fun o ho => by
  obtain ⟨n, hn⟩ := List.getElem?_of_mem ho
  have hl : n < p.length := by rw [r.len]; exact (List.getElem?_eq_some_iff.mp hn).1
  have ob := r.ob n p[n] o (List.getElem?_eq_getElem hl) hn
  rw [← r.len]
  cases o with
  | lst ds =>
    obtain ⟨vs, _, h⟩ := ob
    exact dens_lt ds h
  | dct kvs =>
    obtain ⟨ws, h0, h⟩ := ob
    show ltDs _ _ = true
    clear hn ho h0
    induction h with
    | nil => rfl
    | cons h1 h2 ih => rw [List.map_cons, ltDs, den_lt _ h1]; exact ih
  | ins fs =>
    obtain ⟨_, ws, h0, h⟩ := ob
    show ltDs _ _ = true
    clear hn ho h0
    induction h with
    | nil => rfl
    | cons h0 h1 h2 ih => rw [List.map_cons, ltDs, den_lt _ h1]; exact ih
mutual
theorem den_ren (e : ∀ i, i < m → p[i]? = q[φ i]?) : ∀ (d : D) {v : V}, ltD m d = true → Den K q H v (renD φ d) → Den K p H v d
  | .tup ds, v, l, h => by
    rw [renD] at h
    obtain ⟨a, vs, rfl, ha, hs⟩ := inv_tup h
    exact .tup ha (dens_ren e ds (by simpa [ltD] using l) hs)
  | .ref n, v, l, h => by
    rw [renD] at h
    obtain ⟨a, rfl, ha⟩ := inv_ref h
    exact .ref (by rw [e n (by simpa [ltD] using l)]; exact ha)
  | .non, _, _, h => by cases h; exact .non
  | .bl _, _, _, h => by cases h; exact .bl _
  | .int _, _, _, h => by cases h; exact .int _
  | .str _, _, _, h => by cases h; exact .str _
  | .scr _, _, _, h => by cases h with | scr h => exact .scr h
  | .exn _ _, _, _, h => by cases h; exact .exn
theorem dens_ren (e : ∀ i, i < m → p[i]? = q[φ i]?) : ∀ (ds : List D) {vs : List V}, ltDs m ds = true → Dens K q H vs (renDs φ ds) → Dens K p H vs ds
  | [], _, _, h => by rw [renDs] at h; cases h; exact .nil
  | d :: ds, _, l, h => by
    rw [renDs] at h
    rw [ltDs] at l
    obtain ⟨l1, l2⟩ := ba l
    cases h with
    | cons h1 h2 => exact .cons (den_ren e d l1 h1) (dens_ren e ds l2 h2)
end
theorem ob_ren (e : ∀ i, i < m → p[i]? = q[φ i]?) {a : Addr} (o : O) (l : ltO m o = true) (h : ObR K q H a (renO φ o)) : ObR K p H a o := by
  cases o with
  | lst ds =>
    obtain ⟨vs, h1, h2⟩ := h
    exact ⟨vs, h1, dens_ren e ds l h2⟩
  | dct kvs =>
    obtain ⟨ws, h1, h2⟩ := h
    refine ⟨ws, h1, ?_⟩
    clear h1
    have l' : ltDs m (kvs.map (·.2)) = true := l
    clear l
    induction kvs generalizing ws with
    | nil => cases h2; exact .nil
    | cons x xs ih =>
      rw [List.map_cons, ltDs] at l'
      obtain ⟨l1, l2⟩ := ba l'
      rw [List.map_cons] at h2
      cases h2 with
      | cons g1 g2 => exact .cons (den_ren e _ l1 g1) (ih _ g2 l2)
  | ins fs =>
    obtain ⟨dx, ws, h1, h2⟩ := h
    refine ⟨dx, ws, h1, ?_⟩
    clear h1
    have l' : ltDs m (fs.map (·.2)) = true := l
    clear l
    induction fs generalizing ws with
    | nil => cases h2; exact .nil
    | cons x xs ih =>
      rw [List.map_cons, ltDs] at l'
      obtain ⟨l1, l2⟩ := ba l'
      rw [List.map_cons] at h2
      cases h2 with
      | cons g0 g1 g2 => exact .cons g0 (den_ren e _ l1 g1) (ih _ g2 l2)
end
/-- G2 is G1 with the unseen left out -/
structure Cl (n0 : Nat) (φ : Nat → Nat) (G1 G2 : Gp) : Prop where
  le : n0 ≤ G2.length
  id : ∀ i, i < n0 → φ i = i
  inj : ∀ i j, i < G2.length → j < G2.length → φ i = φ j → i = j
  ob : ∀ i o, G2[i]? = some o → ltO G2.length o = true ∧ G1[φ i]? = some (renO φ o)
theorem Cl.rel {K : PySem.W.Frag} {n0 : Nat} {φ : Nat → Nat} {G1 G2 : Gp} {q : List Addr} {H : Hp} (c : Cl n0 φ G1 G2) (r : Rel K q G1 H) : ∃ p, Rel K p G2 H ∧ (∀ i, i < G2.length → p[i]? = q[φ i]?) := by
  have hlt : ∀ i, i < G2.length → φ i < q.length := fun i hi => by
    have := (c.ob i G2[i] (List.getElem?_eq_getElem hi)).2
    rw [r.len]
    exact (List.getElem?_eq_some_iff.mp this).1
  let p : List Addr := (List.range G2.length).map fun i => q.getD (φ i) 0
  have hp : ∀ i, i < G2.length → p[i]? = q[φ i]? := fun i hi => by
    show ((List.range G2.length).map fun i => q.getD (φ i) 0)[i]? = _
    rw [List.getElem?_map, List.getElem?_range hi]
    show some (q.getD (φ i) 0) = _
    rw [List.getD_eq_getElem?_getD, List.getElem?_eq_getElem (hlt i hi)]
    rfl
  have hl : p.length = G2.length := by show ((List.range G2.length).map _).length = _; simp
  refine ⟨p, ⟨hl, ?_, fun n a o e g => ?_⟩, hp⟩
  · refine List.pairwise_iff_getElem.mpr fun i j hi hj hij e0 => ?_
    have e : p[i]? = p[j]? := by rw [List.getElem?_eq_getElem hi, List.getElem?_eq_getElem hj, e0]
    rw [hl] at hj
    rw [hp i (by omega), hp j hj] at e
    have h1 := List.getElem?_eq_getElem (hlt i (by omega))
    have h2 := List.getElem?_eq_getElem (hlt j hj)
    rw [h1, h2] at e
    have e2 := (List.getElem_inj r.nd).mp (Option.some.inj e)
    have := c.inj i j (by omega) hj e2
    omega
  · have hn : n < G2.length := (List.getElem?_eq_some_iff.mp g).1
    obtain ⟨h1, h2⟩ := c.ob n o g
    rw [hp n hn] at e
    exact ob_ren hp o h1 (r.ob (φ n) a _ e h2)
def ClR (n0 : Nat) (r1 r2 : R D) : Prop := match r2 with
  | .bad => True
  | .ok d2 G2 => ∃ φ d1 G1, r1 = .ok d1 G1 ∧ Cl n0 φ G1 G2 ∧ d1 = renD φ d2 ∧ ltD G2.length d2 = true
  | .exc c G2 => ∃ φ G1, r1 = .exc c G1 ∧ Cl n0 φ G1 G2
def Cleans (n : Nat) (F C : FM) : Prop := ∀ ds G, ds.length = n → Closed G.length G → ltDs G.length ds = true → ClR G.length (F ds G) (C ds G)
theorem cleans {P : Program} {w : World} {K : PySem.W.Frag} {mg : Str → Option Value} {base : Heap} {CX : CXT} {k n : Nat} {f : Addr} {fd : FuncData} {ps : List Str} {F C : FM} (h : FnOk P w K mg base CX k f fd ps (spM K n F)) (c : Cleans n F C) : FnOk P w K mg base CX k f fd ps (spM K n C) := by
  refine h.imp fun vs H Q E ⟨p, G, ds, rl, dn, hl, h⟩ => ⟨p, G, ds, rl, dn, hl, ?_⟩
  have hc := c ds G hl (rel_closed rl) (by rw [← rl.len]; exact dens_lt ds dn)
  cases hC : C ds G with
  | bad => rw [hC] at h; exact h.elim
  | ok d2 G2 =>
    rw [hC] at h hc
    obtain ⟨φ, d1, G1, e, cl, rfl, lt⟩ := hc
    rw [e]
    intro q H' v pr t r1 dv
    obtain ⟨p2, r2, hp⟩ := cl.rel r1
    refine h p2 H' v ?_ t r2 (den_ren hp d2 lt dv)
    rw [List.prefix_iff_getElem?]
    intro i hi
    rw [rl.len] at hi
    rw [hp i (Nat.lt_of_lt_of_le hi cl.le), cl.id i hi]
    exact (pre_get pr (List.getElem?_eq_getElem (by rw [rl.len]; exact hi)))
  | exc cc G2 =>
    rw [hC] at h hc
    obtain ⟨φ, G1, e, cl⟩ := hc
    rw [e]
    intro q H' pr t r1
    obtain ⟨p2, r2, hp⟩ := cl.rel r1
    refine h p2 H' ?_ t r2
    rw [List.prefix_iff_getElem?]
    intro i hi
    rw [rl.len] at hi
    rw [hp i (Nat.lt_of_lt_of_le hi cl.le), cl.id i hi]
    exact (pre_get pr (List.getElem?_eq_getElem (by rw [rl.len]; exact hi)))
theorem cl_app {n0 : Nat} {G2 J : Gp} (h : n0 ≤ G2.length) (c : Closed G2.length G2) : Cl n0 (fun i => i) (G2 ++ J) G2 :=
  ⟨h, fun _ _ => rfl, fun _ _ _ _ e => e, fun i o e => ⟨c o (List.mem_of_getElem? e), by
    rw [renO_id (m := G2.length) (fun _ _ => rfl) o (c o (List.mem_of_getElem? e)), List.getElem?_append_left (List.getElem?_eq_some_iff.mp e).1]
    exact e⟩⟩
/-- behind it lies only what no one sees -/
theorem clr_ok {n0 : Nat} {r : R D} {d : D} {G2 : Gp} (h : ∃ J, r = .ok d (G2 ++ J)) (l : n0 ≤ G2.length) (c : Closed G2.length G2) (hd : ltD G2.length d = true) : ClR n0 r (.ok d G2) := by
  obtain ⟨J, e⟩ := h
  exact ⟨fun i => i, d, _, e, cl_app l c, (renD_id (m := G2.length) (fun _ _ => rfl) d hd).symm, hd⟩
theorem clr_exc {n0 : Nat} {r : R D} {e : Nat} {G2 : Gp} (h : ∃ J, r = .exc e (G2 ++ J)) (l : n0 ≤ G2.length) (c : Closed G2.length G2) : ClR n0 r (.exc e G2) := by
  obtain ⟨J, e⟩ := h
  exact ⟨fun i => i, _, e, cl_app l c⟩
theorem closed_app {G : Gp} {o : O} (c : Closed G.length G) (h : ltO (G.length + 1) o = true) : Closed (G ++ [o]).length (G ++ [o]) := fun z hz => by
  rw [List.length_append, List.length_singleton]
  rcases List.mem_append.mp hz with q | q
  · exact ltO_mono (Nat.le_succ _) z (c z q)
  · rw [List.mem_singleton.mp q]; exact h
/-- a new object, behind things that no one sees -/
theorem clr_new {r : R D} {o : O} {G : Gp} (h : ∃ J J', r = .ok (.ref (G.length + J.length)) (G ++ J ++ o :: J')) (c : Closed G.length G) (ho : ltO G.length o = true) : ClR G.length r (.ok (.ref G.length) (G ++ [o])) := by
  obtain ⟨J, J', e⟩ := h
  refine ⟨fun i => if i < G.length then i else G.length + J.length, _, _, e, ⟨by simp, fun i hi => if_pos hi, fun i j hi hj e => ?_, fun i z e => ?_⟩, by rw [renD, if_neg (Nat.lt_irrefl _)], by rw [ltD]; simp⟩
  · rw [List.length_append, List.length_singleton] at hi hj
    split at e <;> split at e <;> omega
  · rw [List.length_append, List.length_singleton]
    have hi : i < (G ++ [o]).length := (List.getElem?_eq_some_iff.mp e).1
    rw [List.length_append, List.length_singleton] at hi
    by_cases hl : i < G.length
    · rw [List.getElem?_append_left hl] at e
      have hz := c z (List.mem_of_getElem? e)
      refine ⟨ltO_mono (Nat.le_succ _) z hz, ?_⟩
      rw [renO_id (m := G.length) (fun j hj => if_pos hj) z hz, if_pos hl, List.append_assoc, List.getElem?_append_left hl]
      exact e
    · have : i = G.length := by omega
      subst this
      rw [List.getElem?_append_right (Nat.le_refl _), Nat.sub_self] at e
      simp at e
      subst e
      refine ⟨ltO_mono (Nat.le_succ _) o ho, ?_⟩
      rw [renO_id (m := G.length) (fun j hj => if_pos hj) o ho, if_neg (Nat.lt_irrefl _), List.getElem?_append_right (by simp)]
      simp
end Mw
namespace Mm
open PySem L2 Mw
open PyProof.Rows hiding St
def N_is_within : List Str := ["thing", "low", "high"]
def b_is_within : MB := (.cons (.ret (.andE (.cons (.isi .int (.var 0)) (.cons (.notE (.isi .bool (.var 0))) (.cons (.chain .le .le (.var 1) (.var 0) (.var 2)) .nil)))))
  .nil)
def N_is_key : List Str := ["thing", "sign"]
def b_is_key : MB := (.cons (.ifS (.orE (.cons (.notE (.isi .str (.var 0))) (.cons (.notE (.chain .le .le (.int 1) (.blt .len (.var 0) .nil) (.int 4))) .nil))) (.cons (.ret (.bl false))
  .nil) .nil)
  (.cons (.ret (.notE (.lc (.var 1) (.nm 1) (.val (.var 0)) (.some (.cmp .notIn (.var 1) (.gstr "SMALL" "abcdefghijklmnopqrstuvwxyz"))) [("sign", 1)])))
  .nil))
def N_is_deed : List Str := ["thing"]
def b_is_deed : MB := (.cons (.ifS (.orE (.cons (.notE (.isi .tuple (.var 0))) (.cons (.notE (.var 0)) (.cons (.notE (.isi .str (.ix (.var 0) (.int 0)))) .nil)))) (.cons (.ret (.bl false))
  .nil) .nil)
  (.cons (.ifS (.cmp .eq (.ix (.var 0) (.int 0)) (.str "none")) (.cons (.ret (.cmp .eq (.blt .len (.var 0) .nil) (.int 1)))
  .nil) .nil)
  (.cons (.ifS (.cmp .eq (.ix (.var 0) (.int 0)) (.str "drop")) (.cons (.ret (.andE (.cons (.cmp .eq (.blt .len (.var 0) .nil) (.int 2)) (.cons (.call 1 (.cons (.ix (.var 0) (.int 1)) .nil)) .nil))))
  .nil) .nil)
  (.cons (.ret (.andE (.cons (.cmp .inC (.ix (.var 0) (.int 0)) (.tup (.cons (.str "put") (.cons (.str "add") .nil)))) (.cons (.cmp .eq (.blt .len (.var 0) .nil) (.int 3)) (.cons (.call 1 (.cons (.ix (.var 0) (.int 1)) .nil)) (.cons (.call 0 (.cons (.ix (.var 0) (.int 2)) (.cons (.int 0) (.cons (.bin .sub (.gint "ROUND" 10000) (.int 1)) .nil)))) .nil))))))
  .nil))))
def N_are_things : List Str := ["thing", "one", "at"]
def b_are_things : MB := (.cons (.ifS (.notE (.isi .tuple (.var 0))) (.cons (.ret (.bl false))
  .nil) .nil)
  (.cons (.forS (.nm 1) (.val (.var 0)) (.cons (.ifS (.orE (.cons (.notE (.isi .tuple (.var 1))) (.cons (.cmp .ne (.blt .len (.var 1) .nil) (.int 2)) (.cons (.notE (.call 1 (.cons (.ix (.var 1) (.int 0)) .nil))) (.cons (.notE (.call 0 (.cons (.ix (.var 1) (.int 1)) (.cons (.int 0) (.cons (.bin .sub (.gint "ROUND" 10000) (.int 1)) .nil))))) .nil))))) (.cons (.ret (.bl false))
  .nil) .nil)
  .nil))
  (.cons (.ret (.notE (.lc (.var 2) (.nm 2) (.range2 (.int 1) (.blt .len (.var 0) .nil)) (.some (.cmp .ge (.ix (.ix (.var 0) (.bin .sub (.var 2) (.int 1))) (.int 0)) (.ix (.ix (.var 0) (.var 2)) (.int 0)))) [("at", 2)])))
  .nil)))
def N_after : List Str := ["things", "deed", "found", "key", "value"]
def b_after : MB := (.cons (.asg (.nm 2) (.blt .dict (.lc (.tup (.cons (.var 3) (.cons (.var 4) .nil))) (.tp [3, 4]) (.val (.var 0)) .none [("key", 3), ("value", 4)]) .nil))
  (.cons (.ifS (.cmp .eq (.ix (.var 1) (.int 0)) (.str "drop")) (.cons (.expr (.pop2 (.var 2) (.ix (.var 1) (.int 1)) .non))
  .nil) .nil)
  (.cons (.ifS (.cmp .eq (.ix (.var 1) (.int 0)) (.str "put")) (.cons (.setI (.var 2) (.ix (.var 1) (.int 1)) (.ix (.var 1) (.int 2)))
  .nil) .nil)
  (.cons (.ifS (.cmp .eq (.ix (.var 1) (.int 0)) (.str "add")) (.cons (.setI (.var 2) (.ix (.var 1) (.int 1)) (.bin .mod (.bin .add (.get2 (.var 2) (.ix (.var 1) (.int 1)) (.int 0)) (.ix (.var 1) (.int 2))) (.gint "ROUND" 10000)))
  .nil) .nil)
  (.cons (.ret (.blt .tuple (.lc (.tup (.cons (.var 3) (.cons (.ix (.var 2) (.var 3)) .nil))) (.nm 3) (.val (.blt .sorted (.var 2) .nil)) .none [("key", 3)]) .nil))
  .nil)))))
def N_after_all : List Str := ["things", "deeds", "deed"]
def b_after_all : MB := (.cons (.forS (.nm 2) (.val (.var 1)) (.cons (.asg (.nm 0) (.call 4 (.cons (.var 0) (.cons (.var 2) .nil))))
  .nil))
  (.cons (.ret (.var 0))
  .nil))
def N_done : List Str := ["things", "deeds", "deed"]
def b_done : MB := (.cons (.ifS (.notE (.call 3 (.cons (.var 0) .nil))) (.cons (.raise 2)
  .nil) .nil)
  (.cons (.ifS (.orE (.cons (.notE (.isi .tuple (.var 1))) (.cons (.lc (.var 2) (.nm 2) (.val (.var 1)) (.some (.notE (.call 2 (.cons (.var 2) .nil)))) [("deed", 2)]) .nil))) (.cons (.raise 1)
  .nil) .nil)
  (.cons (.ret (.call 5 (.cons (.var 0) (.cons (.var 1) .nil))))
  .nil)))
def N__law_cell : List Str := ["script", "k"]
def b__law_cell : MB := (.cons (.ifS (.cmp .lt (.var 1) (.blt .len (.var 0) .nil)) (.cons (.ret (.ix (.var 0) (.var 1)))
  .nil) .nil)
  (.cons (.ret (.int 0))
  .nil))
def N__law_seed : List Str := ["seed", "k"]
def b__law_seed : MB := (.cons (.ret (.bin .mod (.bin .pow (.bin .mod (.bin .add (.bin .add (.bin .mul (.var 0) (.int 1103515245)) (.bin .mul (.int 7919) (.var 1))) (.int 12345)) (.int 2147483647)) (.int 5)) (.int 2147483647)))
  .nil)
def N__law_pick : List Str := ["seed", "many"]
def b__law_pick : MB := (.cons (.ret (.bin .mod (.bin .div (.var 0) (.int 97)) (.var 1)))
  .nil)
def N__law_deed : List Str := ["seed", "key", "value"]
def b__law_deed : MB := (.cons (.asg (.nm 1) (.ix (.lst (.cons (.str "a") (.cons (.str "b") (.cons (.str "c") (.cons (.str "dd") (.cons (.str "zzzz") .nil)))))) (.call 9 (.cons (.var 0) (.cons (.int 5) .nil)))))
  (.cons (.asg (.nm 2) (.ix (.lst (.cons (.bin .mod (.bin .div (.var 0) (.int 7)) (.int 10000)) (.cons (.bin .mod (.bin .div (.var 0) (.int 7)) (.int 5)) (.cons (.int 9999) .nil)))) (.bin .mod (.bin .div (.var 0) (.int 11)) (.int 3))))
  (.cons (.ret (.ix (.lst (.cons (.tup (.cons (.str "put") (.cons (.var 1) (.cons (.var 2) .nil)))) (.cons (.tup (.cons (.str "add") (.cons (.var 1) (.cons (.var 2) .nil)))) (.cons (.tup (.cons (.str "drop") (.cons (.var 1) .nil))) (.cons (.tup (.cons (.str "put") (.cons (.var 1) (.cons (.var 2) .nil)))) (.cons (.tup (.cons (.str "none") .nil)) .nil)))))) (.bin .mod (.bin .div (.var 0) (.int 13)) (.int 5))))
  .nil)))
def N__law_after : List Str := ["some", "deeds", "found", "deed", "key", "value"]
def b__law_after : MB := (.cons (.asg (.nm 2) (.blt .dict (.lc (.tup (.cons (.var 4) (.cons (.var 5) .nil))) (.tp [4, 5]) (.val (.var 0)) .none [("key", 4), ("value", 5)]) .nil))
  (.cons (.forS (.nm 3) (.val (.var 1)) (.cons (.ifS (.cmp .eq (.ix (.var 3) (.int 0)) (.str "put")) (.cons (.setI (.var 2) (.ix (.var 3) (.int 1)) (.ix (.var 3) (.int 2)))
  .nil) .nil)
  (.cons (.ifS (.cmp .eq (.ix (.var 3) (.int 0)) (.str "add")) (.cons (.setI (.var 2) (.ix (.var 3) (.int 1)) (.bin .mod (.bin .add (.get2 (.var 2) (.ix (.var 3) (.int 1)) (.int 0)) (.ix (.var 3) (.int 2))) (.int 10000)))
  .nil) .nil)
  (.cons (.ifS (.andE (.cons (.cmp .eq (.ix (.var 3) (.int 0)) (.str "drop")) (.cons (.cmp .inC (.ix (.var 3) (.int 1)) (.var 2)) .nil))) (.cons (.expr (.pop1 (.var 2) (.ix (.var 3) (.int 1))))
  .nil) .nil)
  .nil))))
  (.cons (.ret (.blt .tuple (.sitems (.var 2)) .nil))
  .nil)))
def N_are_rows : List Str := ["thing", "low", "high", "one"]
def b_are_rows : MB := (.cons (.ifS (.notE (.isi .tuple (.var 0))) (.cons (.ret (.bl false))
  .nil) .nil)
  (.cons (.forS (.nm 3) (.val (.var 0)) (.cons (.ifS (.orE (.cons (.notE (.isi .tuple (.var 3))) (.cons (.cmp .ne (.blt .len (.var 3) .nil) (.int 2)) (.cons (.notE (.call 0 (.cons (.ix (.var 3) (.int 0)) (.cons (.var 1) (.cons (.var 2) .nil))))) (.cons (.notE (.call 2 (.cons (.ix (.var 3) (.int 1)) .nil))) .nil))))) (.cons (.ret (.bl false))
  .nil) .nil)
  (.cons (.asg (.nm 1) (.ix (.var 3) (.int 0)))
  .nil)))
  (.cons (.ret (.bl true))
  .nil)))
def N_is_paper : List Str := ["thing", "term", "base", "ahead", "things", "rows", "kept"]
def b_is_paper : MB := (.cons (.ifS (.orE (.cons (.notE (.isi .tuple (.var 0))) (.cons (.cmp .ne (.blt .len (.var 0) .nil) (.int 6)) (.cons (.notE (.call 0 (.cons (.ix (.var 0) (.int 0)) (.cons (.int 0) (.cons (.gint "MOST" 100000) .nil))))) .nil)))) (.cons (.ret (.bl false))
  .nil) .nil)
  (.cons (.asg (.tp [1, 2, 3, 4, 5, 6]) (.var 0))
  (.cons (.ifS (.orE (.cons (.notE (.call 0 (.cons (.var 2) (.cons (.int 0) (.cons (.gint "MOST" 100000) .nil))))) (.cons (.notE (.call 0 (.cons (.var 3) (.cons (.int 0) (.cons (.var 1) .nil))))) (.cons (.notE (.call 3 (.cons (.var 4) .nil))) .nil)))) (.cons (.ret (.bl false))
  .nil) .nil)
  (.cons (.ifS (.orE (.cons (.andE (.cons (.cmp .eq (.var 2) (.int 0)) (.cons (.orE (.cons (.cmp .ne (.var 3) (.int 0)) (.cons (.cmp .ne (.var 4) (.tup .nil)) .nil))) .nil))) (.cons (.andE (.cons (.cmp .gt (.var 2) (.int 0)) (.cons (.cmp .eq (.var 3) (.int 0)) .nil))) .nil))) (.cons (.ret (.bl false))
  .nil) .nil)
  (.cons (.ret (.andE (.cons (.call 13 (.cons (.var 5) (.cons (.blt .max (.var 3) (.cons (.int 1) .nil)) (.cons (.var 1) .nil)))) (.cons (.call 0 (.cons (.var 6) (.cons (.var 2) (.cons (.bin .add (.var 2) (.blt .len (.var 5) .nil)) .nil)))) .nil))))
  .nil)))))
def N__law_history : List Str := ["seed", "many", "found", "term", "k", "one"]
def b__law_history : MB := (.cons (.asg (.nm 2) (.lst .nil))
  (.cons (.asg (.nm 3) (.int 1))
  (.cons (.forS (.nm 4) (.range1 (.bin .mod (.bin .div (.var 0) (.int 7)) (.bin .add (.var 1) (.int 1)))) (.cons (.asg (.nm 5) (.call 8 (.cons (.var 0) (.cons (.var 4) .nil))))
  (.cons (.asg (.nm 3) (.bin .add (.var 3) (.ix (.lst (.cons (.int 0) (.cons (.int 0) (.cons (.int 0) (.cons (.int 1) (.cons (.int 2) .nil)))))) (.call 9 (.cons (.var 5) (.cons (.int 5) .nil))))))
  (.cons (.expr (.app (.var 2) (.tup (.cons (.var 3) (.cons (.call 10 (.cons (.call 8 (.cons (.var 5) (.cons (.int 1) .nil))) .nil)) .nil)))))
  .nil))))
  (.cons (.ret (.blt .tuple (.var 2) .nil))
  .nil))))
def N__law_paper : List Str := ["rows", "base", "kept", "more", "top", "ahead", "some", "row"]
def b__law_paper : MB := (.cons (.asg (.nm 4) (.ifE (.cmp .ne (.var 0) (.tup .nil)) (.ix (.ix (.var 0) (.neg (.int 1))) (.int 0)) (.int 0)))
  (.cons (.asg (.nm 5) (.ifE (.cmp .gt (.var 1) (.int 0)) (.ix (.ix (.var 0) (.bin .sub (.var 1) (.int 1))) (.int 0)) (.int 0)))
  (.cons (.asg (.nm 6) (.call 11 (.cons (.tup .nil) (.cons (.lc (.ix (.var 7) (.int 1)) (.nm 7) (.val (.sl (.var 0) .none (.some (.var 1)))) .none [("row", 7)]) .nil))))
  (.cons (.ret (.tup (.cons (.bin .add (.var 4) (.var 3)) (.cons (.var 1) (.cons (.var 5) (.cons (.var 6) (.cons (.sl (.var 0) (.some (.var 1)) .none) (.cons (.var 2) .nil))))))))
  .nil))))
def N__law_drawn_paper : List Str := ["seed", "many", "rows", "kept", "base"]
def b__law_drawn_paper : MB := (.cons (.asg (.nm 2) (.call 15 (.cons (.var 0) (.cons (.var 1) .nil))))
  (.cons (.asg (.nm 3) (.bin .mod (.bin .div (.var 0) (.int 11)) (.bin .add (.blt .len (.var 2) .nil) (.int 1))))
  (.cons (.asg (.nm 4) (.ix (.lst (.cons (.int 0) (.cons (.var 3) (.cons (.bin .mod (.bin .div (.var 0) (.int 13)) (.bin .add (.var 3) (.int 1))) .nil)))) (.bin .mod (.bin .div (.var 0) (.int 17)) (.int 3))))
  (.cons (.ret (.tup (.cons (.call 16 (.cons (.var 2) (.cons (.var 4) (.cons (.var 3) (.cons (.bin .mod (.bin .div (.var 0) (.int 19)) (.int 3)) .nil))))) (.cons (.var 2) .nil))))
  .nil))))
def N_look : List Str := ["paper"]
def b_look : MB := (.cons (.ifS (.notE (.call 14 (.cons (.var 0) .nil))) (.cons (.raise 3)
  .nil) .nil)
  .nil)
def N_length_of : List Str := ["paper"]
def b_length_of : MB := (.cons (.ret (.bin .add (.ix (.var 0) (.int 1)) (.blt .len (.ix (.var 0) (.int 4)) .nil)))
  .nil)
def N_length : List Str := ["paper"]
def b_length : MB := (.cons (.expr (.call 18 (.cons (.var 0) .nil)))
  (.cons (.ret (.call 19 (.cons (.var 0) .nil)))
  .nil))
def N_term_at : List Str := ["paper", "number"]
def b_term_at : MB := (.cons (.ifS (.cmp .eq (.var 1) (.ix (.var 0) (.int 1))) (.cons (.ret (.ix (.var 0) (.int 2)))
  .nil) .nil)
  (.cons (.ret (.ix (.ix (.ix (.var 0) (.int 4)) (.bin .sub (.bin .sub (.var 1) (.ix (.var 0) (.int 1))) (.int 1))) (.int 0)))
  .nil))
def N_last_of : List Str := ["paper"]
def b_last_of : MB := (.cons (.ret (.tup (.cons (.call 21 (.cons (.var 0) (.cons (.call 19 (.cons (.var 0) .nil)) .nil))) (.cons (.call 19 (.cons (.var 0) .nil)) .nil))))
  .nil)
def N_last : List Str := ["paper"]
def b_last : MB := (.cons (.expr (.call 18 (.cons (.var 0) .nil)))
  (.cons (.ret (.call 22 (.cons (.var 0) .nil)))
  .nil))
def N_things_of : List Str := ["paper", "row"]
def b_things_of : MB := (.cons (.ret (.call 5 (.cons (.ix (.var 0) (.int 3)) (.cons (.lc (.ix (.var 1) (.int 1)) (.nm 1) (.val (.sl (.ix (.var 0) (.int 4)) .none (.some (.bin .sub (.ix (.var 0) (.int 5)) (.ix (.var 0) (.int 1)))))) .none [("row", 1)]) .nil))))
  .nil)
def N_things : List Str := ["paper"]
def b_things : MB := (.cons (.expr (.call 18 (.cons (.var 0) .nil)))
  (.cons (.ret (.call 24 (.cons (.var 0) .nil)))
  .nil))
def N_trimmed : List Str := ["paper", "number", "gone", "term", "base", "ahead", "some", "rows", "kept", "row"]
def b_trimmed : MB := (.cons (.expr (.call 18 (.cons (.var 0) .nil)))
  (.cons (.ifS (.notE (.call 0 (.cons (.var 1) (.cons (.ix (.var 0) (.int 1)) (.cons (.ix (.var 0) (.int 5)) .nil))))) (.cons (.raise 5)
  .nil) .nil)
  (.cons (.asg (.tp [3, 4, 5, 6, 7, 8]) (.var 0))
  (.cons (.asg (.nm 2) (.bin .sub (.var 1) (.var 4)))
  (.cons (.ret (.tup (.cons (.var 3) (.cons (.var 1) (.cons (.call 21 (.cons (.var 0) (.cons (.var 1) .nil))) (.cons (.call 5 (.cons (.var 6) (.cons (.lc (.ix (.var 9) (.int 1)) (.nm 9) (.val (.sl (.var 7) .none (.some (.var 2)))) .none [("row", 9)]) .nil))) (.cons (.sl (.var 7) (.some (.var 2)) .none) (.cons (.var 8) .nil))))))))
  .nil)))))
def N_sent : List Str := ["paper", "number", "some", "term", "base", "ahead", "things", "rows", "kept"]
def b_sent : MB := (.cons (.expr (.call 18 (.cons (.var 0) .nil)))
  (.cons (.ifS (.orE (.cons (.notE (.call 0 (.cons (.var 1) (.cons (.int 0) (.cons (.call 19 (.cons (.var 0) .nil)) .nil))))) (.cons (.cmp .eq (.ix (.var 0) (.int 0)) (.int 0)) .nil))) (.cons (.raise 5)
  .nil) .nil)
  (.cons (.asg (.tp [3, 4, 5, 6, 7, 8]) (.var 0))
  (.cons (.ifS (.cmp .lt (.var 1) (.var 4)) (.cons (.ret (.tup (.cons (.str "whole") (.cons (.var 3) (.cons (.var 4) (.cons (.var 5) (.cons (.var 6) (.cons (.var 8) .nil))))))))
  .nil) .nil)
  (.cons (.asg (.nm 2) (.sl (.var 7) (.some (.bin .sub (.var 1) (.var 4))) (.some (.bin .add (.bin .sub (.var 1) (.var 4)) (.gint "MOST_ROWS" 3)))))
  (.cons (.ret (.tup (.cons (.str "rows") (.cons (.var 3) (.cons (.var 1) (.cons (.call 21 (.cons (.var 0) (.cons (.var 1) .nil))) (.cons (.var 2) (.cons (.var 8) .nil))))))))
  .nil))))))
def N_law_k03 : List Str := ["script", "number", "found", "caught", "bad", "paper", "rows", "term", "base", "ahead", "some", "left", "kept", "row"]
def b_law_k03 : MB := (.cons (.asg (.tp [5, 6]) (.call 17 (.cons (.call 8 (.cons (.call 7 (.cons (.var 0) (.cons (.int 0) .nil))) (.cons (.int 0) .nil))) (.cons (.int 10) .nil))))
  (.cons (.asg (.tp [7, 8, 9, 10, 11, 12]) (.var 5))
  (.cons (.ifS (.orE (.cons (.cmp .ne (.call 20 (.cons (.var 5) .nil)) (.blt .len (.var 6) .nil)) (.cons (.cmp .ne (.call 23 (.cons (.var 5) .nil)) (.tup (.cons (.ifE (.cmp .ne (.var 6) (.tup .nil)) (.ix (.ix (.var 6) (.neg (.int 1))) (.int 0)) (.int 0)) (.cons (.blt .len (.var 6) .nil) .nil)))) .nil))) (.cons (.ret (.bl false))
  .nil) .nil)
  (.cons (.ifS (.cmp .ne (.call 25 (.cons (.var 5) .nil)) (.call 11 (.cons (.tup .nil) (.cons (.lc (.ix (.var 13) (.int 1)) (.nm 13) (.val (.sl (.var 6) .none (.some (.var 12)))) .none [("row", 13)]) .nil)))) (.cons (.ret (.bl false))
  .nil) .nil)
  (.cons (.asg (.nm 1) (.bin .add (.var 8) (.bin .mod (.call 7 (.cons (.var 0) (.cons (.int 1) .nil))) (.bin .add (.bin .sub (.var 12) (.var 8)) (.int 1)))))
  (.cons (.asg (.nm 2) (.call 26 (.cons (.var 5) (.cons (.var 1) .nil))))
  (.cons (.ifS (.orE (.cons (.cmp .ne (.var 2) (.bin .add (.tup (.cons (.var 7) .nil)) (.sl (.call 16 (.cons (.var 6) (.cons (.var 1) (.cons (.var 12) (.cons (.int 0) .nil))))) (.some (.int 1)) .none))) (.cons (.cmp .isNot (.call 14 (.cons (.var 2) .nil)) (.bl true)) .nil))) (.cons (.ret (.bl false))
  .nil) .nil)
  (.cons (.ifS (.orE (.cons (.cmp .ne (.call 25 (.cons (.var 2) .nil)) (.call 25 (.cons (.var 5) .nil))) (.cons (.cmp .ne (.call 23 (.cons (.var 2) .nil)) (.call 23 (.cons (.var 5) .nil))) (.cons (.cmp .ne (.call 26 (.cons (.var 2) (.cons (.var 12) .nil))) (.call 26 (.cons (.var 5) (.cons (.var 12) .nil)))) .nil)))) (.cons (.ret (.bl false))
  .nil) .nil)
  (.cons (.asg (.nm 3) (.int 0))
  (.cons (.forS (.nm 4) (.val (.tup (.cons (.bin .sub (.var 8) (.int 1)) (.cons (.bin .add (.var 12) (.int 1)) (.cons .non (.cons (.str "0") (.cons (.neg (.int 1)) (.cons (.tup (.cons (.var 8) .nil)) .nil)))))))) (.cons (.tryS (.cons (.expr (.call 26 (.cons (.var 5) (.cons (.var 4) .nil))))
  .nil) (.cons 5 (.cons (.augN 3 (.int 1))
  .nil) .nil))
  .nil))
  (.cons (.ret (.cmp .eq (.var 3) (.int 6)))
  .nil)))))))))))
def N__law_mix : List Str := ["cell", "prime", "many"]
def b__law_mix : MB := (.cons (.ret (.bin .mod (.bin .mod (.bin .pow (.bin .mod (.bin .mul (.var 0) (.int 48271)) (.var 1)) (.int 3)) (.var 1)) (.var 2)))
  .nil)
def N_law_k35 : List Str := ["script", "some", "many", "deeds", "found", "at", "keys", "turned", "key", "adds", "values", "mine", "base", "final", "added", "k", "deed", "value"]
def b_law_k35 : MB := (.cons (.asg (.nm 1) (.call 11 (.cons (.tup .nil) (.cons (.lc (.call 10 (.cons (.call 8 (.cons (.call 7 (.cons (.var 0) (.cons (.bin .add (.int 1) (.var 15)) .nil))) (.cons (.var 15) .nil))) .nil)) (.nm 15) (.range1 (.bin .mod (.call 7 (.cons (.var 0) (.cons (.int 0) .nil))) (.int 6))) .none [("k", 15)]) .nil))))
  (.cons (.asg (.nm 2) (.bin .mod (.call 7 (.cons (.var 0) (.cons (.int 6) .nil))) (.int 11)))
  (.cons (.asg (.nm 3) (.blt .tuple (.lc (.call 10 (.cons (.call 8 (.cons (.bin .add (.call 7 (.cons (.var 0) (.cons (.int 7) .nil))) (.call 7 (.cons (.var 0) (.cons (.bin .add (.int 9) (.var 15)) .nil)))) (.cons (.var 15) .nil))) .nil)) (.nm 15) (.range1 (.var 2)) .none [("k", 15)]) .nil))
  (.cons (.asg (.nm 4) (.call 6 (.cons (.var 1) (.cons (.var 3) .nil))))
  (.cons (.asg (.nm 5) (.call 36 (.cons (.call 7 (.cons (.var 0) (.cons (.int 8) .nil))) (.cons (.int 9949) (.cons (.bin .add (.var 2) (.int 1)) .nil)))))
  (.cons (.ifS (.orE (.cons (.cmp .ne (.call 6 (.cons (.call 6 (.cons (.var 1) (.cons (.sl (.var 3) .none (.some (.var 5))) .nil))) (.cons (.sl (.var 3) (.some (.var 5)) .none) .nil))) (.var 4)) (.cons (.cmp .ne (.call 6 (.cons (.var 1) (.cons (.bin .add (.var 3) (.tup (.cons (.tup (.cons (.str "none") .nil)) .nil))) .nil))) (.var 4)) .nil))) (.cons (.ret (.bl false))
  .nil) .nil)
  (.cons (.asg (.nm 6) (.sset (.lc (.ix (.var 16) (.int 1)) (.nm 16) (.val (.var 3)) (.some (.cmp .ne (.var 16) (.tup (.cons (.str "none") .nil)))) [("deed", 16)])))
  (.cons (.asg (.nm 7) (.tup .nil))
  (.cons (.forS (.nm 8) (.val (.rev (.var 6) (.neg (.int 1)))) (.cons (.asg (.nm 7) (.bin .add (.var 7) (.blt .tuple (.lc (.var 16) (.nm 16) (.val (.var 3)) (.some (.andE (.cons (.cmp .ne (.var 16) (.tup (.cons (.str "none") .nil))) (.cons (.cmp .eq (.ix (.var 16) (.int 1)) (.var 8)) .nil)))) [("deed", 16)]) .nil)))
  .nil))
  (.cons (.ifS (.cmp .ne (.call 6 (.cons (.var 1) (.cons (.var 7) .nil))) (.var 4)) (.cons (.ret (.bl false))
  .nil) .nil)
  (.cons (.asg (.nm 9) (.blt .tuple (.lc (.var 16) (.nm 16) (.val (.var 3)) (.some (.cmp .eq (.ix (.var 16) (.int 0)) (.str "add"))) [("deed", 16)]) .nil))
  (.cons (.ifS (.cmp .ne (.call 6 (.cons (.var 1) (.cons (.var 9) .nil))) (.call 6 (.cons (.var 1) (.cons (.rev (.var 9) (.neg (.int 1))) .nil)))) (.cons (.ret (.bl false))
  .nil) .nil)
  (.cons (.asg (.nm 10) (.blt .dict (.lc (.tup (.cons (.var 8) (.cons (.var 17) .nil))) (.tp [8, 17]) (.val (.var 4)) .none [("key", 8), ("value", 17)]) .nil))
  (.cons (.forS (.nm 8) (.val (.var 6)) (.cons (.asgLc 11 (.var 16) (.nm 16) (.val (.var 3)) (.some (.andE (.cons (.cmp .ne (.var 16) (.tup (.cons (.str "none") .nil))) (.cons (.cmp .eq (.ix (.var 16) (.int 1)) (.var 8)) .nil)))) [("deed", 16)])
  (.cons (.asgLc 12 (.var 15) (.tp [15, 16]) (.enum (.var 11)) (.some (.cmp .ne (.ix (.var 16) (.int 0)) (.str "add"))) [("k", 15), ("deed", 16)])
  (.cons (.ifS (.cmp .ne (.var 12) (.lst .nil)) (.cons (.asg (.nm 13) (.ix (.var 11) (.ix (.var 12) (.neg (.int 1)))))
  (.cons (.asg (.nm 14) (.blt .sum (.lc (.ix (.var 16) (.int 2)) (.nm 16) (.val (.sl (.var 11) (.some (.bin .add (.ix (.var 12) (.neg (.int 1))) (.int 1))) .none)) .none [("deed", 16)]) .nil))
  (.cons (.ifS (.andE (.cons (.cmp .eq (.ix (.var 13) (.int 0)) (.str "drop")) (.cons (.cmp .eq (.ix (.var 12) (.neg (.int 1))) (.bin .sub (.blt .len (.var 11) .nil) (.int 1))) .nil))) (.cons (.ifS (.cmp .inC (.var 8) (.var 10)) (.cons (.ret (.bl false))
  .nil) .nil)
  .nil) (.cons (.ifS (.cmp .ne (.ix (.var 10) (.var 8)) (.bin .mod (.bin .add (.ifE (.cmp .eq (.ix (.var 13) (.int 0)) (.str "put")) (.ix (.var 13) (.int 2)) (.int 0)) (.var 14)) (.int 10000))) (.cons (.ret (.bl false))
  .nil) .nil)
  .nil))
  .nil))) .nil)
  .nil))))
  (.cons (.ret (.bl true))
  .nil)))))))))))))))
end Mm

namespace Mm
open PySem L2 Mw
open PyProof.Rows hiding St
@[simp] theorem big_eq : big = 100000 := rfl
/-- a known callee -/
def Kn (Γ : Fns) (c n : Nat) (C : FM) : Prop := Γ.ar c = n ∧ Γ.F c = C
section
variable {G : Gp} {i j : Int} {b c : Bool} {x y : Str} {ds es : List D} {ns : List Int} {n : Nat} {t : Ty}
@[simp] theorem isi_non : dIsi .non t G = .ok false G := rfl
@[simp] theorem isi_bl : dIsi (.bl b) t G = .ok t.isBl G := rfl
@[simp] theorem isi_int : dIsi (.int i) t G = .ok t.isInt G := rfl
@[simp] theorem isi_str : dIsi (.str x) t G = .ok t.isStr G := rfl
@[simp] theorem isi_tup : dIsi (.tup ds) t G = .ok t.isTup G := rfl
theorem isi_lst (h : G[n]? = some (.lst ds)) : dIsi (.ref n) t G = .ok t.isLst G := by simp only [dIsi, h]
theorem isi_dct {kvs : List (Key × D)} (h : G[n]? = some (.dct kvs)) : dIsi (.ref n) t G = .ok false G := by simp only [dIsi, h]
@[simp] theorem ty1 : Ty.isBl .int = true := rfl
@[simp] theorem ty2 : Ty.isBl .bool = true := rfl
@[simp] theorem ty3 : Ty.isBl .str = false := rfl
@[simp] theorem ty4 : Ty.isBl .tuple = false := rfl
@[simp] theorem ty5 : Ty.isBl .list = false := rfl
@[simp] theorem ty6 : Ty.isInt .int = true := rfl
@[simp] theorem ty7 : Ty.isInt .bool = false := rfl
@[simp] theorem ty8 : Ty.isInt .str = false := rfl
@[simp] theorem ty9 : Ty.isInt .tuple = false := rfl
@[simp] theorem tya : Ty.isInt .list = false := rfl
@[simp] theorem tyb : Ty.isStr .int = false := rfl
@[simp] theorem tyc : Ty.isStr .bool = false := rfl
@[simp] theorem tyd : Ty.isStr .str = true := rfl
@[simp] theorem tye : Ty.isStr .tuple = false := rfl
@[simp] theorem tyf : Ty.isStr .list = false := rfl
@[simp] theorem tyg : Ty.isTup .int = false := rfl
@[simp] theorem tyh : Ty.isTup .bool = false := rfl
@[simp] theorem tyi : Ty.isTup .str = false := rfl
@[simp] theorem tyj : Ty.isTup .tuple = true := rfl
@[simp] theorem tyk : Ty.isTup .list = false := rfl
@[simp] theorem tyl : Ty.isLst .int = false := rfl
@[simp] theorem tym : Ty.isLst .bool = false := rfl
@[simp] theorem tyn : Ty.isLst .str = false := rfl
@[simp] theorem tyo : Ty.isLst .tuple = false := rfl
@[simp] theorem typ : Ty.isLst .list = true := rfl
@[simp] theorem le_int : dLe (.int i) (.int j) G = .ok (decide (i ≤ j)) G := rfl
@[simp] theorem lt_int : dLt (.int i) (.int j) G = .ok (decide (i < j)) G := rfl
@[simp] theorem le_str : dLe (.str x) (.str y) G = .ok (!decide (y.cps.toList < x.cps.toList)) G := rfl
@[simp] theorem lt_str : dLt (.str x) (.str y) G = .ok (decide (x.cps.toList < y.cps.toList)) G := rfl
@[simp] theorem tru_bl : dTru (.bl b) G = .ok b G := rfl
@[simp] theorem tru_non : dTru .non G = .ok false G := rfl
@[simp] theorem tru_int : dTru (.int i) G = .ok (i != 0) G := rfl
@[simp] theorem tru_tup : dTru (.tup ds) G = .ok (!ds.isEmpty) G := rfl
theorem tru_lst (h : G[n]? = some (.lst ds)) : dTru (.ref n) G = .ok (!ds.isEmpty) G := by simp only [dTru, h]
@[simp] theorem len_tup : dLen (.tup ds) G = .ok (.int ds.length) G := rfl
@[simp] theorem len_scr : dLen (.scr ns) G = .ok (.int ns.length) G := rfl
theorem len_lst (h : G[n]? = some (.lst ds)) : dLen (.ref n) G = .ok (.int ds.length) G := by simp only [dLen, h]
theorem len_str (h : x.length ≤ big) : dLen (.str x) G = .ok (.int x.length) G := by simp only [dLen, if_pos h]
@[simp] theorem add_int : dAdd (.int i) (.int j) G = .ok (.int (i + j)) G := rfl
@[simp] theorem sub_int : dSub (.int i) (.int j) G = .ok (.int (i - j)) G := rfl
theorem add_tup (h : ds.length + es.length ≤ big) : dAdd (.tup ds) (.tup es) G = .ok (.tup (ds ++ es)) G := by simp only [dAdd, if_pos h]
theorem mod_int (h : 0 < j) : dMod (.int i) (.int j) G = .ok (.int (i % j)) G := by simp only [dMod, if_pos h]
theorem div_int (h : 0 < j ∧ j < 1073741824) : dDiv (.int i) (.int j) G = .ok (.int (i / j)) G := by simp only [dDiv, if_pos h]
theorem ix_tup {d : D} (h : atI ds i = some d) : dIx (.tup ds) (.int i) G = .ok d G := by simp only [dIx, h]
theorem ix_scr {k : Int} (h : atI ns i = some k) : dIx (.scr ns) (.int i) G = .ok (.int k) G := by simp only [dIx, h]
theorem ix_lst {d : D} (g : G[n]? = some (.lst ds)) (h : atI ds i = some d) : dIx (.ref n) (.int i) G = .ok d G := by simp only [dIx, g, h]
@[simp] theorem src_tup : dSrc (.tup ds) G = .ok ⟨ds, none⟩ G := rfl
@[simp] theorem src_str : dSrc (.str x) G = .ok ⟨chars x, none⟩ G := rfl
theorem src_lst (h : G[n]? = some (.lst ds)) : dSrc (.ref n) G = .ok ⟨ds, some n⟩ G := by simp only [dSrc, h]
theorem atI_nat {α : Type} {l : List α} (k : Nat) (h : k < l.length) : atI l (k : Int) = l[k]? := by
  unfold atI ixN
  rw [if_pos (by omega), if_pos (by omega)]
  rfl
@[simp] theorem at0 {α : Type} {a : α} {l : List α} : atI (a :: l) 0 = some a := by
  have := atI_nat (l := a :: l) 0 (by simp)
  simpa using this
@[simp] theorem at1 {α : Type} {a b : α} {l : List α} : atI (a :: b :: l) 1 = some b := by
  have := atI_nat (l := a :: b :: l) 1 (by simp)
  simpa using this
@[simp] theorem at2 {α : Type} {a b c : α} {l : List α} : atI (a :: b :: c :: l) 2 = some c := by
  have := atI_nat (l := a :: b :: c :: l) 2 (by simp)
  simpa using this
@[simp] theorem at3 {α : Type} {a b c d : α} {l : List α} : atI (a :: b :: c :: d :: l) 3 = some d := by
  have := atI_nat (l := a :: b :: c :: d :: l) 3 (by simp)
  simpa using this
@[simp] theorem at4 {α : Type} {a b c d e : α} {l : List α} : atI (a :: b :: c :: d :: e :: l) 4 = some e := by
  have := atI_nat (l := a :: b :: c :: d :: e :: l) 4 (by simp)
  simpa using this
@[simp] theorem mid {G0 J : Gp} {o : O} : (G0 ++ o :: J)[G0.length]? = some o := by simp
theorem eq_int : dEq (.int i) (.int j) G = .ok (decide (i = j)) G := by
  simp only [dEq, py, PyData.eqv]
  congr
theorem eq_bl : dEq (.bl b) (.bl c) G = .ok (b == c) G := by
  simp only [dEq, py, PyData.eqv]
theorem eq_str (hx : PyData.strOk x = true) (hy : PyData.strOk y = true) : dEq (.str x) (.str y) G = .ok (decide (x = y)) G := by
  simp only [dEq, py, if_pos hx, if_pos hy, PyData.eqv]
  congr
end
def Step (t : Tg) (tst : En → Gp → R Bool) (elt : ME0) (e : En) (f : D → Option D) (G0 : Gp) (d : D) : Prop := ∀ (acc : List D) (J : Gp), ∃ e1 b J1, t.set d e = some e1 ∧ tst e1 (G0 ++ .lst acc :: J) = .ok b (G0 ++ .lst acc :: J1) ∧
  ((b = false ∧ f d = none) ∨ (b = true ∧ ∃ y J2, f d = some y ∧ elt e1 (G0 ++ .lst acc :: J1) = .ok y (G0 ++ .lst acc :: J2)))
theorem lcGo_ok {t : Tg} {tst : En → Gp → R Bool} {elt : ME0} {s : Src} {e : En} {f : D → Option D} {G0 : Gp} (hs : ∀ X J, s.still (G0 ++ .lst X :: J) = true) : ∀ (ds acc : List D) (J : Gp), acc.length + ds.length ≤ big → (∀ d ∈ ds, Step t tst elt e f G0 d) →
    ∃ J', lcGo t tst elt s G0.length e ds (G0 ++ .lst acc :: J) = .ok (.ref G0.length) (G0 ++ .lst (acc ++ ds.filterMap f) :: J')
  | [], acc, J, _, _ => ⟨J, by simp [lcGo]⟩
  | d :: ds, acc, J, hl, h => by
    obtain ⟨e1, b, J1, h1, h2, h3⟩ := h d List.mem_cons_self acc J
    have hr : ∀ d ∈ ds, Step t tst elt e f G0 d := fun z hz => h z (List.mem_cons_of_mem _ hz)
    rw [List.length_cons] at hl
    rcases h3 with ⟨rfl, h3⟩ | ⟨rfl, y, J2, h3, h4⟩
    · obtain ⟨J', q⟩ := lcGo_ok hs ds acc J1 (by omega) hr
      refine ⟨J', ?_⟩
      rw [lcGo, h1]
      dsimp only
      rw [h2]
      dsimp only
      rw [if_pos (hs _ _), q, List.filterMap_cons, h3]
    · obtain ⟨J', q⟩ := lcGo_ok hs ds (acc ++ [y]) J2 (by rw [List.length_append, List.length_singleton]; omega) hr
      refine ⟨J', ?_⟩
      rw [lcGo, h1]
      dsimp only
      rw [h2]
      dsimp only
      rw [h4]
      dsimp only
      rw [mid]
      dsimp only
      have e3 : (G0 ++ .lst acc :: J2).set G0.length (.lst (acc ++ [y])) = G0 ++ .lst (acc ++ [y]) :: J2 := by simp
      rw [e3, if_pos ⟨by omega, hs _ _⟩, q, List.filterMap_cons, h3]
      simp
theorem still_app {s : Src} {G0 : Gp} (h : s.still G0 = true) (J : Gp) : s.still (G0 ++ J) = true := by
  unfold Src.still at h ⊢
  split
  · rfl
  · rename_i n e
    rw [e] at h
    dsimp only at h
    split at h
    · rename_i ds g
      rw [List.getElem?_append_left (List.getElem?_eq_some_iff.mp g).1, g]
      exact h
    · cases h
  · rename_i n e
    rw [e] at h
    dsimp only at h
    split at h
    · rename_i ds g
      rw [List.getElem?_append_left (List.getElem?_eq_some_iff.mp g).1, g]
      exact h
    · cases h
theorem mLc_ok {t : Tg} {it : MI0} {tst : En → Gp → R Bool} {elt : ME0} {vs : List Nat} {e : En} {G G1 : Gp} {s : Src} (f : D → Option D) (hi : it e G = .ok s G1) (hs : s.still G1 = true) (hl : s.ds.length ≤ big) (h : ∀ d ∈ s.ds, Step t tst elt (wipeE e vs) f G1 d) :
    ∃ J', mLc t it tst elt vs e G = .ok (.ref G1.length) (G1 ++ .lst (s.ds.filterMap f) :: J') := by
  obtain ⟨J', q⟩ := lcGo_ok (s := s) (t := t) (tst := tst) (elt := elt) (e := wipeE e vs) (f := f) (G0 := G1) (fun X J => still_app hs _) s.ds [] [] (by rw [List.length_nil]; omega) h
  refine ⟨J', ?_⟩
  unfold mLc
  rw [hi]
  dsimp only
  rw [if_pos ⟨hs, still_app hs _⟩, q]
  rfl
end Mm
namespace Mm
open PySem L2 Mw
open PyProof.Rows hiding St
def isWithin (d : D) (lo hi : Int) : Bool := match d with
  | .int i => decide (lo ≤ i) && decide (i ≤ hi)
  | _ => false
/-- a thing that a test of its kind may look at -/
def seen (d : D) (G : Gp) : Bool := match d with
  | .ref n => (match G[n]? with
    | some (.lst _) => true
    | some (.dct _) => true
    | _ => false)
  | .scr _ => false
  | .exn _ _ => false
  | _ => true
def C_is_within : FM := fun ds G => match ds with
  | [d, .int lo, .int hi] => if seen d G = true then .ok (.bl (isWithin d lo hi)) G else .bad
  | _ => .bad
theorem K_is_within {Γ : Fns} {xs : List Nat} : Cleans 3 (fnRun N_is_within.length (eB Γ xs b_is_within)) C_is_within := by
  intro ds G hl hc hlt
  unfold C_is_within
  split
  · rename_i d lo hi
    split
    · rename_i hs
      refine clr_ok ⟨[], ?_⟩ (Nat.le_refl _) hc rfl
      rw [List.append_nil]
      cases d with
      | ref n =>
        unfold seen at hs
        dsimp only at hs
        split at hs
        · rename_i g
          simp [fnRun, b_is_within, startD, N_is_within, isWithin, isi_lst g]
        · rename_i g
          simp [fnRun, b_is_within, startD, N_is_within, isWithin, isi_dct g]
        · cases hs
      | scr ns => cases hs
      | exn _ _ => cases hs
      | int i =>
        simp [fnRun, b_is_within, startD, N_is_within, isWithin]
        by_cases h : lo ≤ i <;> simp [h]
      | _ => simp [fnRun, b_is_within, startD, N_is_within, isWithin]
    · trivial
  · trivial
def small : Str := "abcdefghijklmnopqrstuvwxyz"
def isKeyS (x : Str) : Bool := decide (1 ≤ x.length) && (decide (x.length ≤ 4) && x.cps.toList.all fun c => decide (c ∈ small.cps.toList))
def isKey (d : D) : Bool := match d with
  | .str x => isKeyS x
  | _ => false
def C_is_key : FM := fun ds G => match ds with
  | [.str x] => if x.length ≤ big then .ok (.bl (isKeyS x)) G else .bad
  | [d] => if seen d G = true then .ok (.bl false) G else .bad
  | _ => .bad
theorem chars_all (x : Str) (p : Nat → Bool) : ((chars x).filterMap fun d => match d with | .str ⟨⟨[c]⟩⟩ => (if p c = true then none else some d) | _ => none).isEmpty = x.cps.toList.all p := by
  unfold chars
  induction x.cps.toList with
  | nil => rfl
  | cons c r ih =>
    rw [List.map_cons, List.filterMap_cons]
    simp only [List.all_cons]
    by_cases h : p c = true
    · rw [h]
      simpa using ih
    · simp [h]
theorem K_is_key {Γ : Fns} {xs : List Nat} : Cleans 1 (fnRun N_is_key.length (eB Γ xs b_is_key)) C_is_key := by
  intro ds G hl hc hlt
  unfold C_is_key
  split
  · rename_i x
    split
    · rename_i hb
      refine clr_ok ?_ (Nat.le_refl _) hc rfl
      by_cases h1 : 1 ≤ x.length ∧ x.length ≤ 4
      · obtain ⟨J, hJ⟩ := mLc_ok (t := .nm 1) (it := miVal (mVar 0)) (tst := mCmpB (notR dIn) (mVar 1) (mC (.str small))) (elt := mVar 1) (vs := [1]) (e := [some (.str x), none]) (G := G) (G1 := G) (s := ⟨chars x, none⟩)
          (fun d => match d with | .str ⟨⟨[c]⟩⟩ => (if decide (c ∈ small.cps.toList) = true then none else some d) | _ => none) rfl rfl (by unfold chars; simp; exact hb) (fun d hd acc J => by
            unfold chars at hd
            obtain ⟨c, hc1, rfl⟩ := List.mem_map.mp hd
            refine ⟨_, !decide (c ∈ small.cps.toList), J, rfl, by simp [wipeE, dIn], ?_⟩
            by_cases hc2 : c ∈ small.cps.toList
            · simp [hc2]
            · simp [hc2, wipeE])
        generalize hL : List.filterMap _ _ = L at hJ
        refine ⟨.lst L :: J, ?_⟩
        have h1' : (1 : Int) ≤ (x.length : Int) := by omega
        have h2' : (x.length : Int) ≤ 4 := by omega
        have hE : L.isEmpty = isKeyS x := by
          rw [← hL]
          refine (chars_all x fun c => decide (c ∈ small.cps.toList)).trans ?_
          unfold isKeyS
          simp [h1.1, h1.2]
        unfold small at hJ
        simp [fnRun, b_is_key, startD, N_is_key, fLen, len_str hb, h1', h2', hJ, tru_lst (G := G ++ O.lst L :: J) mid, hE]
      · have hk : isKeyS x = false := by
          unfold isKeyS
          simp
          intro a b
          exact absurd ⟨a, b⟩ h1
        refine ⟨[], ?_⟩
        rw [hk]
        by_cases h2 : (1 : Int) ≤ (x.length : Int)
        · have h3 : ¬ ((x.length : Int) ≤ 4) := by omega
          simp [fnRun, b_is_key, startD, N_is_key, fLen, len_str hb, h2, h3]
        · simp [fnRun, b_is_key, startD, N_is_key, fLen, len_str hb, h2]
    · trivial
  · rename_i d hd
    split
    · rename_i hs
      refine clr_ok ⟨[], ?_⟩ (Nat.le_refl _) hc rfl
      rw [List.append_nil]
      cases d with
      | ref n =>
        unfold seen at hs
        dsimp only at hs
        split at hs
        · rename_i g
          simp [fnRun, b_is_key, startD, N_is_key, isi_lst g]
        · rename_i g
          simp [fnRun, b_is_key, startD, N_is_key, isi_dct g]
        · cases hs
      | scr ns => cases hs
      | exn _ _ => cases hs
      | str x => exact absurd rfl (hd x)
      | _ => simp [fnRun, b_is_key, startD, N_is_key]
    · trivial
  · trivial
/-- an item that the tests may look at -/
def okE (G : Gp) (d : D) : Bool := match d with
  | .str x => decide (x.length ≤ 1000) && PyData.strOk x
  | d => seen d G
theorem okE_seen {G : Gp} {d : D} (h : okE G d = true) : seen d G = true := by
  cases d <;> first | rfl | exact h
theorem key_eq {G : Gp} {d : D} (h : okE G d = true) : C_is_key [d] G = .ok (.bl (isKey d)) G := by
  cases d with
  | str x =>
    have h2 := (ba h).1
    have h3 : x.length ≤ big := Nat.le_trans (of_decide_eq_true h2) (by decide)
    show (if x.length ≤ big then R.ok (D.bl (isKeyS x)) G else .bad) = _
    rw [if_pos h3]
    rfl
  | ref n => show (if seen (.ref n) G = true then R.ok (D.bl false) G else .bad) = _; rw [if_pos (okE_seen h)]; rfl
  | scr n => cases h
  | exn _ _ => cases h
  | _ => rfl
theorem within_eq {G : Gp} {d : D} {lo hi : Int} (h : okE G d = true) : C_is_within [d, .int lo, .int hi] G = .ok (.bl (isWithin d lo hi)) G := by
  show (if seen d G = true then R.ok (D.bl (isWithin d lo hi)) G else .bad) = _
  rw [if_pos (okE_seen h)]
def isDeed (d : D) : Bool := match d with
  | .tup (.str x :: r) => if x = "none" then r.isEmpty else if x = "drop" then (match r with
      | [k] => isKey k
      | _ => false)
    else (decide (x = "put") || decide (x = "add")) && (match r with
      | [k, v] => isKey k && isWithin v 0 9999
      | _ => false)
  | _ => false
def okT (G : Gp) (d : D) : Bool := match d with
  | .tup ds => ds.all (okE G)
  | d => okE G d
def C_is_deed : FM := fun ds G => match ds with
  | [d] => if okT G d = true then .ok (.bl (isDeed d)) G else .bad
  | _ => .bad
theorem in2 {G : Gp} {x a b : Str} (hx : PyData.strOk x = true) (ha : PyData.strOk a = true) (hb : PyData.strOk b = true) : dIn (.str x) (.tup [.str a, .str b]) G = .ok (decide (x = a) || decide (x = b)) G := by
  simp [dIn, py, hx, ha, hb, flatD, PyData.eqv]
  congr 1
  · exact decide_eq_decide.mpr eq_comm
  · exact decide_eq_decide.mpr eq_comm
theorem K_is_deed {Γ : Fns} {xs : List Nat} (h0 : Kn Γ 0 3 C_is_within) (h1 : Kn Γ 1 1 C_is_key) : Cleans 1 (fnRun N_is_deed.length (eB Γ xs b_is_deed)) C_is_deed := by
  intro ds G hl hc hlt
  unfold C_is_deed
  split
  · rename_i d
    split
    · rename_i hs
      refine clr_ok ⟨[], ?_⟩ (Nat.le_refl _) hc rfl
      rw [List.append_nil]
      cases d with
      | tup ds =>
        cases ds with
        | nil => simp [fnRun, b_is_deed, startD, N_is_deed, isDeed]
        | cons x r =>
          have hs' : ((x :: r).all (okE G)) = true := hs
          rw [List.all_cons, Bool.and_eq_true] at hs'
          obtain ⟨hx, hr⟩ := hs'
          cases x with
          | str x =>
            have hx2 := (ba hx).2
            have o1 : PyData.strOk "none" = true := by decide +kernel
            have o2 : PyData.strOk "drop" = true := by decide +kernel
            have o3 : PyData.strOk "put" = true := by decide +kernel
            have o4 : PyData.strOk "add" = true := by decide +kernel
            by_cases e1 : x = "none"
            · subst e1
              cases r <;> simp [fnRun, b_is_deed, startD, N_is_deed, isDeed, ix_tup, eq_str, fLen, eq_int, hx2]
              omega
            · by_cases e2 : x = "drop"
              · subst e2
                match r, hr with
                | [], _ => simp [fnRun, b_is_deed, startD, N_is_deed, isDeed, ix_tup, eq_str, fLen, eq_int, hx2, o1, e1]
                | [k], hr =>
                  have hk : okE G k = true := by simpa using hr
                  simp [fnRun, b_is_deed, startD, N_is_deed, isDeed, ix_tup, eq_str, fLen, eq_int, hx2, o1, e1, h1.1, h1.2, key_eq hk]
                | k :: l :: r, _ =>
                  have hn : ¬ ((r.length : Int) + 1 + 1 + 1 = 2) := by omega
                  simp [fnRun, b_is_deed, startD, N_is_deed, isDeed, ix_tup, eq_str, fLen, eq_int, hx2, o1, e1, hn]
              · by_cases e3 : x = "put" ∨ x = "add"
                · have e3' : (decide (x = "put") || decide (x = "add")) = true := by simpa using e3
                  match r, hr with
                  | [], _ => simp [fnRun, b_is_deed, startD, N_is_deed, isDeed, ix_tup, eq_str, fLen, eq_int, hx2, o1, o2, e1, e2, in2 hx2 o3 o4, e3']
                  | [k], hr => simp [fnRun, b_is_deed, startD, N_is_deed, isDeed, ix_tup, eq_str, fLen, eq_int, hx2, o1, o2, e1, e2, in2 hx2 o3 o4, e3']
                  | [k, v], hr =>
                    have hk : okE G k = true ∧ okE G v = true := by simpa using hr
                    simp [fnRun, b_is_deed, startD, N_is_deed, isDeed, ix_tup, eq_str, fLen, eq_int, hx2, o1, o2, e1, e2, in2 hx2 o3 o4, e3', h1.1, h1.2, key_eq hk.1, h0.1, h0.2, within_eq hk.2]
                    cases isKey k <;> simp
                  | k :: l :: m :: r, _ =>
                    have hn : ¬ ((r.length : Int) + 1 + 1 + 1 + 1 = 3) := by omega
                    simp [fnRun, b_is_deed, startD, N_is_deed, isDeed, ix_tup, eq_str, fLen, eq_int, hx2, o1, o2, e1, e2, in2 hx2 o3 o4, e3', hn]
                · have e3' : (decide (x = "put") || decide (x = "add")) = false := by simpa using e3
                  simp [fnRun, b_is_deed, startD, N_is_deed, isDeed, ix_tup, eq_str, fLen, eq_int, hx2, o1, o2, e1, e2, in2 hx2 o3 o4, e3']
          | ref n =>
            have hx' := okE_seen hx
            unfold seen at hx'
            dsimp only at hx'
            split at hx'
            · rename_i g
              simp [fnRun, b_is_deed, startD, N_is_deed, isi_lst g, isDeed, ix_tup]
            · rename_i g
              simp [fnRun, b_is_deed, startD, N_is_deed, isi_dct g, isDeed, ix_tup]
            · cases hx'
          | scr n => cases hx
          | exn _ _ => cases hx
          | _ => simp [fnRun, b_is_deed, startD, N_is_deed, isDeed, ix_tup]
      | ref n =>
        unfold okT okE seen at hs
        dsimp only at hs
        split at hs
        · rename_i g
          simp [fnRun, b_is_deed, startD, N_is_deed, isi_lst g, isDeed]
        · rename_i g
          simp [fnRun, b_is_deed, startD, N_is_deed, isi_dct g, isDeed]
        · cases hs
      | scr ns => cases hs
      | exn _ _ => cases hs
      | _ => simp [fnRun, b_is_deed, startD, N_is_deed, isDeed]
    · trivial
  · trivial
end Mm
namespace Mm
open PySem L2 Mw
open PyProof.Rows hiding St
def isPair (d : D) : Bool := match d with
  | .tup [k, v] => isKey k && isWithin v 0 9999
  | _ => false
def keyOf (d : D) : Str := match d with
  | .tup (.str x :: _) => x
  | _ => ""
def ltS (x y : Str) : Bool := decide (x.cps.toList < y.cps.toList)
def ascend : List D → Bool
  | a :: b :: r => ltS (keyOf a) (keyOf b) && ascend (b :: r)
  | _ => true
def areThings (d : D) : Bool := match d with
  | .tup ds => ds.all isPair && ascend ds
  | _ => false
def okTs (G : Gp) (d : D) : Bool := match d with
  | .tup ds => ds.all (okT G) && decide (ds.length ≤ 1000)
  | d => okE G d
def C_are_things : FM := fun ds G => match ds with
  | [d] => if okTs G d = true then .ok (.bl (areThings d)) G else .bad
  | _ => .bad
/-- a walk that gives False at the first that fails -/
def lastD (ds : List D) (w : Option D) : Option D := ds.getLast?.or w
theorem set_self {e : En} {i : Nat} : e.set i e[i]?.join = e := by
  apply List.ext_getElem?
  intro j
  by_cases hj : j = i
  · subst hj
    by_cases hl : j < e.length
    · rw [List.getElem?_set_self hl, List.getElem?_eq_getElem hl]
      rfl
    · rw [List.set_eq_of_length_le (by omega)]
  · rw [List.getElem?_set_ne (Ne.symm hj)]
theorem for_chk {i : Nat} {it : MI0} {B : MS0} {e : En} {G : Gp} {s : Src} (p : D → Bool) (hi : it e G = .ok s G) (hs : s.still G = true) (hB : ∀ d ∈ s.ds, ∀ w, B ((e.set i w).set i (some d)) G = if p d = true then .nx ((e.set i w).set i (some d)) G else .rt (.bl false) G) :
    mFor (.nm i) it B e G = if s.ds.all p = true then .nx (e.set i (lastD s.ds e[i]?.join)) G else .rt (.bl false) G := by
  unfold mFor
  rw [hi]
  dsimp only
  rw [if_pos hs]
  have key : ∀ (ds : List D) (w : Option D) (_ : ∀ d ∈ ds, d ∈ s.ds), forGo (.nm i) B s ds (e.set i w) G = if ds.all p = true then .nx (e.set i (lastD ds w)) G else .rt (.bl false) G := by
    intro ds
    induction ds with
    | nil => intro w _; rfl
    | cons d ds ih =>
      intro w hm
      rw [forGo]
      simp only [Tg.set]
      rw [hB d (hm d List.mem_cons_self) w]
      rw [List.all_cons]
      by_cases hp : p d = true
      · rw [if_pos hp, hp]
        dsimp only
        rw [if_pos hs, List.set_set, ih (some d) fun z hz => hm z (List.mem_cons_of_mem _ hz)]
        simp only [Bool.true_and]
        have : lastD (d :: ds) w = lastD ds (some d) := by
          unfold lastD
          cases ds with
          | nil => rfl
          | cons a r =>
            rw [List.getLast?_cons_cons]
            cases h : (a :: r).getLast? with
            | none => simp at h
            | some z => rfl
        rw [this]
      · rw [if_neg hp]
        simp [hp]
  have := key s.ds e[i]?.join (fun _ h => h)
  rw [set_self] at this
  exact this
def fAsc (ds : List D) (d : D) : Option D := match d with
  | .int i => if ltS (keyOf (ds.getD (i.toNat - 1) .non)) (keyOf (ds.getD i.toNat .non)) = true then none else some d
  | _ => none
theorem isPair_inv {d : D} (h : isPair d = true) : ∃ x v, d = .tup [.str x, v] := by
  unfold isPair at h
  split at h
  · rename_i k v
    cases k with
    | str x => exact ⟨x, v, rfl⟩
    | _ => cases h
  · cases h
theorem asc_iff : ∀ ds : List D, ascend ds = true ↔ ∀ k, k + 1 < ds.length → ltS (keyOf (ds.getD k .non)) (keyOf (ds.getD (k + 1) .non)) = true
  | [] => by simp [ascend]
  | [a] => by simp [ascend]
  | a :: b :: r => by
    rw [ascend, Bool.and_eq_true, asc_iff (b :: r)]
    constructor
    · intro h k hk
      cases k with
      | zero => exact h.1
      | succ k => exact h.2 k (by simpa using hk)
    · intro h
      exact ⟨h 0 (by simp), fun k hk => h (k + 1) (by simpa using hk)⟩
theorem asc_eq (ds : List D) : ((rangeD 1 (ds.length - 1)).filterMap (fAsc ds)).isEmpty = ascend ds := by
  rw [Bool.eq_iff_iff, asc_iff, List.isEmpty_iff, List.filterMap_eq_nil_iff]
  unfold rangeD
  constructor
  · intro h k hk
    have := h (.int (1 + (k : Int))) (List.mem_map.mpr ⟨k, List.mem_range.mpr (by omega), rfl⟩)
    unfold fAsc at this
    dsimp only at this
    rw [show (1 + (k : Int)).toNat - 1 = k by omega, show (1 + (k : Int)).toNat = k + 1 by omega] at this
    split at this
    · assumption
    · cases this
  · intro h d hd
    obtain ⟨k, hk, rfl⟩ := List.mem_map.mp hd
    have := h k (by have := List.mem_range.mp hk; omega)
    unfold fAsc
    dsimp only
    rw [show (1 + (k : Int)).toNat - 1 = k by omega, show (1 + (k : Int)).toNat = k + 1 by omega, if_pos this]
theorem K_are_things {Γ : Fns} {xs : List Nat} (h0 : Kn Γ 0 3 C_is_within) (h1 : Kn Γ 1 1 C_is_key) : Cleans 1 (fnRun N_are_things.length (eB Γ xs b_are_things)) C_are_things := by
  intro ds G hl hc hlt
  unfold C_are_things
  split
  · rename_i d
    split
    · rename_i hs
      refine clr_ok ?_ (Nat.le_refl _) hc rfl
      cases d with
      | tup ds =>
        obtain ⟨hs1, hs2⟩ := ba (show (ds.all (okT G) && decide (ds.length ≤ 1000)) = true from hs)
        simp [fnRun, b_are_things, startD, N_are_things]
        rw [for_chk (s := ⟨ds, none⟩) isPair rfl rfl ?hB]
        case hB =>
          intro d hd w
          have hd' : okT G d = true := List.all_eq_true.mp hs1 d hd
          cases d with
          | tup l =>
            have hl' : l.all (okE G) = true := hd'
            match l, hl' with
            | [], _ => simp [isPair, fLen, eq_int]
            | [k], _ => simp [isPair, fLen, eq_int]
            | [k, v], hkv =>
              have hk : okE G k = true ∧ okE G v = true := by simpa using hkv
              simp [isPair, fLen, eq_int, ix_tup, h1.1, h1.2, key_eq hk.1, h0.1, h0.2, within_eq hk.2]
              cases isKey k <;> cases isWithin v 0 9999 <;> simp
            | k :: l :: m :: r, _ =>
              have hn : ¬ ((r.length : Int) + 1 + 1 + 1 = 2) := by omega
              simp [isPair, fLen, eq_int, hn]
          | ref n =>
            have hx' := okE_seen (show okE G (.ref n) = true from hd')
            unfold seen at hx'
            dsimp only at hx'
            split at hx'
            · rename_i g
              simp [isPair, isi_lst g]
            · rename_i g
              simp [isPair, isi_dct g]
            · cases hx'
          | scr n => cases hd'
          | exn _ _ => cases hd'
          | _ => simp [isPair]
        by_cases hp : ds.all isPair = true
        · rw [if_pos hp]
          simp
          generalize hm : mLc (.nm 2) _ _ _ [2] _ _ = r
          have hr : ∃ J, r = .ok (.ref G.length) (G ++ .lst ((rangeD 1 (ds.length - 1)).filterMap (fAsc ds)) :: J) := by
            rw [← hm]
            refine mLc_ok (s := ⟨rangeD 1 (ds.length - 1), none⟩) (fAsc ds) ?_ rfl ?_ ?_
            · have hn2 := of_decide_eq_true hs2
              have e1 : (-100000 < (ds.length : Int) ∧ (ds.length : Int) < 100000) := by omega
              have e2 : ((ds.length : Int) - 1).toNat = ds.length - 1 := by omega
              simp [fLen, e1, e2]
            · have hn2 := of_decide_eq_true hs2
              simp [rangeD]
              omega
            · intro d hd acc J
              obtain ⟨k, hk, rfl⟩ := List.mem_map.mp hd
              have hk' : k + 1 < ds.length := by have := List.mem_range.mp hk; omega
              obtain ⟨x, v, e1⟩ := isPair_inv (List.all_eq_true.mp hp ds[k] (List.getElem_mem _))
              obtain ⟨y, w, e2⟩ := isPair_inv (List.all_eq_true.mp hp ds[k + 1] (List.getElem_mem _))
              have a1 : atI ds (1 + (k : Int) - 1) = some (.tup [.str x, v]) := by
                rw [show (1 + (k : Int) - 1) = ((k : Nat) : Int) by omega, atI_nat k (by omega), List.getElem?_eq_getElem (by omega), e1]
              have a2 : atI ds (1 + (k : Int)) = some (.tup [.str y, w]) := by
                rw [show (1 + (k : Int)) = ((k + 1 : Nat) : Int) by omega, atI_nat (k + 1) (by omega), List.getElem?_eq_getElem (by omega), e2]
              have hf : fAsc ds (.int (1 + (k : Int))) = if ltS x y = true then none else some (.int (1 + (k : Int))) := by
                unfold fAsc
                dsimp only
                rw [show (1 + (k : Int)).toNat - 1 = k by omega, show (1 + (k : Int)).toNat = k + 1 by omega, List.getD_eq_getElem?_getD, List.getD_eq_getElem?_getD, List.getElem?_eq_getElem (by omega), List.getElem?_eq_getElem (by omega), e1, e2]
                rfl
              refine ⟨_, !ltS x y, J, rfl, ?_, ?_⟩
              · simp [wipeE, ix_tup a1, ix_tup a2, ix_tup, ltS]
              · rw [hf]
                cases ltS x y
                · exact .inr ⟨rfl, _, J, rfl, by simp [wipeE]⟩
                · exact .inl ⟨rfl, rfl⟩
          obtain ⟨J, rfl⟩ := hr
          refine ⟨.lst ((rangeD 1 (ds.length - 1)).filterMap (fAsc ds)) :: J, ?_⟩
          have hE : areThings (.tup ds) = ((rangeD 1 (ds.length - 1)).filterMap (fAsc ds)).isEmpty := by
            rw [asc_eq]
            show (ds.all isPair && ascend ds) = ascend ds
            rw [hp, Bool.true_and]
          rw [hE]
          simp only [R.bind_ok, tru_lst mid, Bool.not_not]
        · rw [if_neg hp]
          exact ⟨[], by simp [areThings, hp]⟩
      | ref n =>
        refine ⟨[], ?_⟩
        unfold okTs okE seen at hs
        dsimp only at hs
        split at hs
        · rename_i g
          simp [fnRun, b_are_things, startD, N_are_things, isi_lst g, areThings]
        · rename_i g
          simp [fnRun, b_are_things, startD, N_are_things, isi_dct g, areThings]
        · cases hs
      | scr ns => cases hs
      | exn _ _ => cases hs
      | _ => exact ⟨[], by simp [fnRun, b_are_things, startD, N_are_things, areThings]⟩
    · trivial
  · trivial
end Mm
namespace Mm
open PySem L2 Mw
open PyProof.Rows hiding St
abbrev KV := Str × Int
def kvD (e : KV) : Key × D := (.inr e.1, .int e.2)
def putL (l : List KV) (k : Str) (v : Int) : List KV := if (l.any fun e => decide (e.1 = k)) = true then l.map (fun e => if e.1 = k then (e.1, v) else e) else l ++ [(k, v)]
def dropL (l : List KV) (k : Str) : List KV := l.filter fun e => decide (e.1 ≠ k)
def getL (l : List KV) (k : Str) : Option Int := (l.find? fun e => decide (e.1 = k)).map (·.2)
abbrev keysL (l : List KV) : List Str := l.map (·.1)
theorem put_kv (l : List KV) (k : Str) (v : Int) : putD (l.map kvD) (.inr k) (.int v) = (putL l k v).map kvD := by
  unfold putD putL
  have e : ((l.map kvD).any fun kv => decide (kv.1 = .inr k)) = l.any fun e => decide (e.1 = k) := by
    rw [List.any_map]
    congr 1
    funext x
    show decide ((Sum.inr x.1 : Key) = Sum.inr k) = decide (x.1 = k)
    simp
  rw [e]
  split
  · rw [List.map_map, List.map_map]
    congr 1
    funext x
    show (if (Sum.inr x.1 : Key) = Sum.inr k then _ else _) = kvD (if x.1 = k then _ else _)
    by_cases h : x.1 = k
    · rw [if_pos h, if_pos (by rw [h])]; rfl
    · rw [if_neg h, if_neg (by simpa using h)]
  · rw [List.map_append]; rfl
theorem drop_kv (l : List KV) (k : Str) : dropD (l.map kvD) (.inr k) = (dropL l k).map kvD := by
  unfold dropD dropL
  rw [List.filter_map]
  congr 1
  apply List.filter_congr
  intro x _
  show decide ((Sum.inr x.1 : Key) ≠ Sum.inr k) = decide (x.1 ≠ k)
  simp
theorem get_kv (l : List KV) (k : Str) : getK (l.map kvD) (.inr k) = (getL l k).map .int := by
  unfold getK getL
  rw [List.find?_map, Option.map_map, Option.map_map]
  have : ((fun kv : Key × D => decide (kv.1 = .inr k)) ∘ kvD) = fun e : KV => decide (e.1 = k) := by
    funext x
    show decide ((Sum.inr x.1 : Key) = Sum.inr k) = decide (x.1 = k)
    simp
  rw [this]
  rfl
theorem pairs_kv : ∀ l : List KV, pairs? (l.map Mw.pairD) = some (l.map kvD)
  | [] => rfl
  | e :: l => by
    rw [List.map_cons, Mw.pairD, pairs?]
    simp only [keyD, pairs_kv l]
    rfl
theorem any_key (l : List KV) (k : Str) : (l.any fun e => decide (e.1 = k)) = decide (k ∈ keysL l) := by
  rw [Bool.eq_iff_iff]
  simp
theorem merge_kv (l : List KV) (h : (keysL l).Nodup) : mergeD [] (l.map kvD) = l.map kvD := by
  have key : ∀ (l a : List KV), (keysL (a ++ l)).Nodup → mergeD (a.map kvD) (l.map kvD) = (a ++ l).map kvD := by
    intro l
    induction l with
    | nil => intro a _; simp [mergeD]
    | cons e l ih =>
      intro a hn
      unfold mergeD at ih ⊢
      rw [List.map_cons, List.foldl_cons]
      have e1 : putD (a.map kvD) (kvD e).1 (kvD e).2 = (a ++ [e]).map kvD := by
        show putD (a.map kvD) (.inr e.1) (.int e.2) = _
        rw [put_kv]
        unfold putL
        have : (a.any fun x => decide (x.1 = e.1)) = false := by
          rw [any_key]
          simp only [keysL, List.map_append, List.map_cons, List.nodup_append] at hn
          simp only [decide_eq_false_iff_not]
          exact fun z => hn.2.2 _ z _ List.mem_cons_self rfl
        rw [this]
        rfl
      rw [e1, ih (a ++ [e]) (by simpa using hn)]
      simp
  exact key l [] h
theorem strs_kv : ∀ l : List KV, strs? ((l.map kvD).map (·.1)) = some (keysL l)
  | [] => rfl
  | e :: l => by
    rw [List.map_cons, List.map_cons]
    show (strs? ((l.map kvD).map (·.1))).map (e.1 :: ·) = _
    rw [strs_kv l]
    rfl
theorem kvI_kv : ∀ l : List KV, kvI? (l.map kvD) = some l
  | [] => rfl
  | e :: l => by
    rw [List.map_cons]
    show (kvI? (l.map kvD)).map ((e.1, e.2) :: ·) = _
    rw [kvI_kv l]
    rfl
theorem get_mem {l : List KV} (h : (keysL l).Nodup) {e : KV} (he : e ∈ l) : getL l e.1 = some e.2 := by
  unfold getL
  induction l with
  | nil => cases he
  | cons a l ih =>
    rw [List.find?_cons]
    simp only [keysL, List.map_cons, List.nodup_cons] at h
    by_cases ha : a.1 = e.1
    · rcases List.mem_cons.mp he with q | q
      · subst q; simp
      · exact absurd (List.mem_map.mpr ⟨e, q, ha.symm⟩) h.1
    · simp only [ha, decide_false]
      rcases List.mem_cons.mp he with q | q
      · exact absurd (by rw [q]) ha
      · exact ih h.2 q
theorem sortKV_perm (l : List KV) : (sortKV l).Perm l := List.mergeSort_perm _ _
theorem sortKV_pw (l : List KV) : (sortKV l).Pairwise (fun a b => leKV a b = true) := List.pairwise_mergeSort (le := leKV) (fun _ _ _ h1 h2 => leS_trans h1 h2) (fun a b => leS_total a.1 b.1) l
theorem kv_unique {a b : List KV} (h : a.Perm b) (hn : (keysL b).Nodup) (s : a.Pairwise (fun a b => leKV a b = true)) : a = sortKV b := by
  have h' : a.Perm (sortKV b) := h.trans (sortKV_perm b).symm
  refine List.Perm.eq_of_pairwise (fun x y hx hy h1 h2 => ?_) s (sortKV_pw b) h'
  have e : x.1 = y.1 := leS_anti h1 h2
  have hx2 : x ∈ b := h.mem_iff.mp hx
  have hy2 : y ∈ b := (sortKV_perm b).mem_iff.mp hy
  have g1 := get_mem hn hx2
  have g2 := get_mem hn hy2
  rw [e, g2] at g1
  exact Prod.ext e (Option.some.inj g1).symm
theorem sort_get {l : List KV} (h : (keysL l).Nodup) : (sortS (keysL l)).map (fun k => (k, (getL l k).getD 0)) = sortKV l := by
  have hp : (sortS (keysL l)).Perm (keysL l) := List.mergeSort_perm _ _
  refine kv_unique ?_ h ?_
  · refine (hp.map _).trans ?_
    have : (keysL l).map (fun k => (k, (getL l k).getD 0)) = l := by
      rw [List.map_map]
      refine (List.map_congr_left fun e he => ?_).trans (List.map_id l)
      show (e.1, (getL l e.1).getD 0) = e
      rw [get_mem h he]
      rfl
    rw [this]
  · rw [List.pairwise_map]
    exact sortS_pw _
theorem sortKV_nodup {l : List KV} (h : (keysL l).Nodup) : (keysL (sortKV l)).Nodup := ((sortKV_perm l).map _).nodup_iff.mpr h
inductive Dd where
  | non | put (k : Str) (v : Int) | add (k : Str) (v : Int) | drop (k : Str)
def ddD : Dd → D
  | .non => .tup [.str "none"]
  | .put k v => .tup [.str "put", .str k, .int v]
  | .add k v => .tup [.str "add", .str k, .int v]
  | .drop k => .tup [.str "drop", .str k]
def dd? : D → Option Dd
  | .tup [.str x] => if x = "none" then some .non else none
  | .tup [.str x, .str k] => if x = "drop" then some (.drop k) else none
  | .tup [.str x, .str k, .int v] => if x = "put" then some (.put k v) else if x = "add" then some (.add k v) else none
  | _ => none
theorem dd_inv {d : D} {a : Dd} (h : dd? d = some a) : d = ddD a := by
  unfold dd? at h
  split at h
  · split at h
    · rename_i e; cases h; rw [e]; rfl
    · cases h
  · split at h
    · rename_i e; cases h; rw [e]; rfl
    · cases h
  · split at h
    · rename_i e; cases h; rw [e]; rfl
    · split at h
      · rename_i e; cases h; rw [e]; rfl
      · cases h
  · cases h
theorem dd_D (a : Dd) : dd? (ddD a) = some a := by
  cases a with
  | non => rfl
  | put k v =>
    show (if (Str.ofString "put") = "put" then some (Dd.put k v) else if (Str.ofString "put") = "add" then some (Dd.add k v) else none) = _
    rw [if_pos rfl]
  | add k v =>
    show (if (Str.ofString "add") = "put" then some (Dd.put k v) else if (Str.ofString "add") = "add" then some (Dd.add k v) else none) = _
    rw [if_neg (by decide +kernel), if_pos rfl]
  | drop k =>
    show (if (Str.ofString "drop") = "drop" then some (Dd.drop k) else none) = _
    rw [if_pos rfl]
def kvs? : List D → Option (List KV)
  | [] => some []
  | .tup [.str x, .int i] :: r => (kvs? r).map ((x, i) :: ·)
  | _ :: _ => none
theorem kvs_inv : ∀ {ds : List D} {l : List KV}, kvs? ds = some l → ds = l.map Mw.pairD
  | [], l, h => by cases h; rfl
  | d :: ds, l, h => by
    unfold kvs? at h
    split at h
    · cases ‹_ :: _ = []›
    · rename_i x i r q
      cases q
      cases e : kvs? ds with
      | none => rw [e] at h; cases h
      | some m =>
        rw [e] at h
        cases h
        rw [kvs_inv e]
        rfl
    · cases h
theorem kvs_D : ∀ l : List KV, kvs? (l.map Mw.pairD) = some l
  | [] => rfl
  | e :: l => by
    show (kvs? (l.map Mw.pairD)).map ((e.1, e.2) :: ·) = _
    rw [kvs_D l]
    rfl
def app (l : List KV) : Dd → List KV
  | .non => l
  | .put k v => putL l k v
  | .add k v => putL l k (((getL l k).getD 0 + v) % 10000)
  | .drop k => dropL l k
theorem putL_keys {l : List KV} {k : Str} {v : Int} : keysL (putL l k v) = if k ∈ keysL l then keysL l else keysL l ++ [k] := by
  unfold putL
  rw [any_key]
  by_cases h : k ∈ keysL l
  · rw [if_pos h, if_pos (decide_eq_true h)]
    show (List.map _ (List.map _ l)) = _
    rw [List.map_map]
    apply List.map_congr_left
    intro e _
    show (if e.1 = k then (e.1, v) else e).1 = e.1
    split <;> rfl
  · rw [if_neg h, if_neg (by simpa using h)]
    simp
theorem app_nodup {l : List KV} (h : (keysL l).Nodup) (d : Dd) : (keysL (app l d)).Nodup := by
  have hp : ∀ k v, (keysL (putL l k v)).Nodup := fun k v => by
    rw [putL_keys]
    split
    · exact h
    · rename_i hk
      rw [List.nodup_append]
      exact ⟨h, by simp, fun a ha b hb => by rw [List.mem_singleton.mp hb]; intro z; exact hk (z ▸ ha)⟩
  cases d with
  | non => exact h
  | put k v => exact hp k v
  | add k v => exact hp k _
  | drop k => exact (List.filter_sublist.map _).nodup h
theorem putL_len {l : List KV} {k : Str} {v : Int} : (putL l k v).length ≤ l.length + 1 := by
  have := congrArg List.length (putL_keys (l := l) (k := k) (v := v))
  simp only [keysL, List.length_map] at this
  split at this <;> simp at this <;> omega
theorem app_len (l : List KV) (d : Dd) : (app l d).length ≤ l.length + 1 := by
  cases d with
  | non => exact Nat.le_succ _
  | put k v => exact putL_len
  | add k v => exact putL_len
  | drop k => exact Nat.le_trans (List.length_filter_le _ _) (Nat.le_succ _)
theorem putL_perm {a b : List KV} (h : a.Perm b) (hn : (keysL a).Nodup) (k : Str) (v : Int) : (putL a k v).Perm (putL b k v) := by
  unfold putL
  rw [any_key, any_key]
  have e : (k ∈ keysL a) ↔ (k ∈ keysL b) := (h.map _).mem_iff
  simp only [decide_eq_true_eq, e]
  split
  · exact h.map _
  · exact h.append_right _
theorem getL_perm {a b : List KV} (h : a.Perm b) (hn : (keysL a).Nodup) (k : Str) : getL a k = getL b k := by
  have hn2 : (keysL b).Nodup := (h.map _).nodup_iff.mp hn
  cases ha : getL a k with
  | some v =>
    unfold getL at ha
    rw [Option.map_eq_some_iff] at ha
    obtain ⟨e, h1, rfl⟩ := ha
    have h2 := List.find?_some h1
    have h3 := List.mem_of_find?_eq_some h1
    rw [← of_decide_eq_true h2, get_mem hn2 (h.mem_iff.mp h3)]
  | none =>
    cases hb : getL b k with
    | none => rfl
    | some v =>
      unfold getL at hb
      rw [Option.map_eq_some_iff] at hb
      obtain ⟨e, h1, rfl⟩ := hb
      have h2 := List.find?_some h1
      have h3 := List.mem_of_find?_eq_some h1
      rw [← of_decide_eq_true h2, get_mem hn (h.mem_iff.mpr h3)] at ha
      cases ha
theorem app_perm {a b : List KV} (h : a.Perm b) (hn : (keysL a).Nodup) (d : Dd) : (app a d).Perm (app b d) := by
  cases d with
  | non => exact h
  | put k v => exact putL_perm h hn k v
  | add k v =>
    show (putL a k _).Perm (putL b k _)
    rw [getL_perm h hn]
    exact putL_perm h hn k _
  | drop k => exact h.filter _
def afterL (l : List KV) (d : Dd) : List KV := sortKV (app l d)
/-- one by one, or all at once -/
theorem afterL_fold (ds : List Dd) (l m : List KV) (h : l.Perm m) (hn : (keysL l).Nodup) : (ds.foldl afterL l).Perm (ds.foldl app m) := by
  induction ds generalizing l m with
  | nil => exact h
  | cons d ds ih => exact ih _ _ ((sortKV_perm _).trans (app_perm h hn d)) (sortKV_nodup (app_nodup hn d))
end Mm
namespace Mm
open PySem L2 Mw
open PyProof.Rows hiding St
@[simp] theorem set_mid {G0 J : Gp} {o u : O} : (G0 ++ o :: J).set G0.length u = G0 ++ u :: J := by simp
theorem lt_pairs {m : Nat} (l : List KV) : ltD m (.tup (l.map Mw.pairD)) = true := by
  rw [ltD, ltDs_all]
  intro d hd
  obtain ⟨e, _, rfl⟩ := List.mem_map.mp hd
  rfl
def C_after : FM := fun ds G => match ds with
  | [.tup ts, d] => (match kvs? ts, dd? d with
    | some l, some a => if (keysL l).Nodup ∧ l.length < 60 then .ok (.tup ((afterL l a).map Mw.pairD)) G else .bad
    | _, _ => .bad)
  | _ => .bad
/-- tuple([(key, found[key]) for key in sorted(found)]) -/
theorem sorted_tail {P : Gp} {m : List KV} {t d w z : Option D} (hn : (keysL m).Nodup) (hl : m.length < 64) : ∃ J, mLc (.nm 3) (miVal (mCall fSorted (maCons (mVar 2) maNil))) mYes (mTup (maCons (mVar 3) (maCons (mBin dIx (mVar 2) (mVar 3)) maNil))) [3] [t, d, some (.ref P.length), w, z] (P ++ [.dct (m.map kvD)]) =
    .ok (.ref (P.length + 2)) ((P ++ [.dct (m.map kvD), .lst ((sortS (keysL m)).map .str)]) ++ .lst ((sortKV m).map Mw.pairD) :: J) := by
  have hlen : (P ++ [.dct (m.map kvD), .lst ((sortS (keysL m)).map .str)] : Gp).length = P.length + 2 := by simp
  have h1 : (P ++ [.dct (m.map kvD), .lst ((sortS (keysL m)).map .str)] : Gp)[P.length + 1]? = some (.lst ((sortS (keysL m)).map .str)) := by simp
  have hsl : (sortS (keysL m)).length = m.length := by
    have := (List.mergeSort_perm (keysL m) leS).length_eq
    simpa [sortS] using this
  obtain ⟨J, hJ⟩ := mLc_ok (t := .nm 3) (it := miVal (mCall fSorted (maCons (mVar 2) maNil))) (tst := mYes) (elt := mTup (maCons (mVar 3) (maCons (mBin dIx (mVar 2) (mVar 3)) maNil))) (vs := [3]) (e := [t, d, some (.ref P.length), w, z]) (G := P ++ [.dct (m.map kvD)]) (G1 := P ++ [.dct (m.map kvD), .lst ((sortS (keysL m)).map .str)]) (s := ⟨(sortS (keysL m)).map .str, some (P.length + 1 : Nat)⟩)
    (fun x => match x with | .str k => some (.tup [.str k, .int ((getL m k).getD 0)]) | _ => none) (by
      simp [fSorted]
      have e1 := strs_kv m
      simp only [List.map_map] at e1
      rw [e1]
      have e2 : (keysL m).length < 64 := by simpa using hl
      simp only [if_pos e2]
      simp [dSrc]) (Src.still_some h1) (by rw [List.length_map, hsl]; simp; omega) (fun x hx acc J => by
      obtain ⟨k, hk, rfl⟩ := List.mem_map.mp hx
      have hk2 : k ∈ keysL m := (List.mergeSort_perm (keysL m) leS).mem_iff.mp hk
      obtain ⟨e, he, rfl⟩ := List.mem_map.mp hk2
      refine ⟨_, true, J, rfl, rfl, .inr ⟨rfl, _, J, rfl, ?_⟩⟩
      have g1 : (P ++ [.dct (m.map kvD), .lst ((sortS (keysL m)).map .str)] ++ .lst acc :: J : Gp)[P.length]? = some (.dct (m.map kvD)) := by simp
      simp [wipeE, dIx, keyD, get_kv, get_mem hn he])
  refine ⟨J, ?_⟩
  rw [hJ, hlen]
  congr 4
  rw [← sort_get hn, List.map_map, List.filterMap_map]
  rw [← List.filterMap_eq_map]
  rfl
theorem drop_none {l : List KV} {k : Str} (h : getL l k = none) : dropL l k = l := by
  unfold getL at h
  rw [Option.map_eq_none_iff, List.find?_eq_none] at h
  unfold dropL
  rw [List.filter_eq_self]
  intro e he
  simpa using h e he
theorem K_after {Γ : Fns} {xs : List Nat} : Cleans 2 (fnRun N_after.length (eB Γ xs b_after)) C_after := by
  intro ds G hl hc hlt
  unfold C_after
  split
  · rename_i ts d
    split
    · rename_i l a hl' ha
      split
      · rename_i hcond
        obtain ⟨hn, hlen⟩ := hcond
        obtain rfl := kvs_inv hl'
        obtain rfl := dd_inv ha
        refine clr_ok ?_ (Nat.le_refl _) hc (lt_pairs _)
        simp [fnRun, b_after, startD, N_after]
        generalize hm : mLc (.tp [3, 4]) _ _ _ [3, 4] _ _ = r
        have hr : ∃ J, r = .ok (.ref G.length) (G ++ .lst (l.map Mw.pairD) :: J) := by
          rw [← hm]
          obtain ⟨J, hJ⟩ := mLc_ok (t := .tp [3, 4]) (it := miVal (mVar 0)) (tst := mYes) (elt := mTup (maCons (mVar 3) (maCons (mVar 4) maNil))) (vs := [3, 4]) (e := [some (.tup (l.map Mw.pairD)), some (ddD a), none, none, none]) (G := G) (G1 := G) (s := ⟨l.map Mw.pairD, none⟩) some rfl rfl (by rw [List.length_map]; simp; omega) (fun d hd acc J => by
            obtain ⟨e, _, rfl⟩ := List.mem_map.mp hd
            refine ⟨_, true, J, rfl, rfl, .inr ⟨rfl, _, J, rfl, ?_⟩⟩
            simp [wipeE, Mw.pairD])
          exact ⟨J, by rw [hJ]; simp⟩
        obtain ⟨J, rfl⟩ := hr
        have e3 := pairs_kv l
        have e4 := merge_kv l hn
        generalize hP : G ++ O.lst (l.map Mw.pairD) :: J = P
        have hg : P[G.length]? = some (.lst (l.map Mw.pairD)) := by rw [← hP]; exact mid
        have o1 : PyData.strOk "none" = true := by decide +kernel
        have o2 : PyData.strOk "drop" = true := by decide +kernel
        have o3 : PyData.strOk "put" = true := by decide +kernel
        have o4 : PyData.strOk "add" = true := by decide +kernel
        have x1 : ¬ ((Str.ofString "none") = Str.ofString "drop") := by decide +kernel
        have x2 : ¬ ((Str.ofString "none") = Str.ofString "put") := by decide +kernel
        have x3 : ¬ ((Str.ofString "none") = Str.ofString "add") := by decide +kernel
        have x4 : ¬ ((Str.ofString "put") = Str.ofString "drop") := by decide +kernel
        have x5 : ¬ ((Str.ofString "put") = Str.ofString "add") := by decide +kernel
        have x6 : ¬ ((Str.ofString "add") = Str.ofString "drop") := by decide +kernel
        have x7 : ¬ ((Str.ofString "add") = Str.ofString "put") := by decide +kernel
        have x8 : ¬ ((Str.ofString "drop") = Str.ofString "put") := by decide +kernel
        have x9 : ¬ ((Str.ofString "drop") = Str.ofString "add") := by decide +kernel
        have fin : ∀ (m : List KV) (r : R D), (∃ J2, r = .ok (.tup ((sortKV m).map Mw.pairD)) (P ++ J2)) → ∃ J3, r = .ok (.tup ((sortKV m).map Mw.pairD)) (G ++ J3) := fun m r ⟨J2, h⟩ => ⟨.lst (l.map Mw.pairD) :: J ++ J2, by rw [h, ← hP]; simp⟩
        refine fin _ _ ?_
        obtain ⟨J2, h2⟩ := sorted_tail (P := P) (m := app l a) (t := some (.tup (l.map Mw.pairD))) (d := some (ddD a)) (w := none) (z := none) (app_nodup hn a) (by have := app_len l a; omega)
        refine ⟨[.dct ((app l a).map kvD), .lst ((sortS (keysL (app l a))).map .str), .lst ((sortKV (app l a)).map Mw.pairD)] ++ J2, ?_⟩
        have g2 : (P ++ [.dct ((app l a).map kvD), .lst ((sortS (keysL (app l a))).map .str)] ++ .lst ((sortKV (app l a)).map Mw.pairD) :: J2)[P.length + 2]? = some (.lst ((sortKV (app l a)).map Mw.pairD)) := by simp
        have hb : l.length < 100000 := by omega
        cases a with
        | non =>
          simp only [ddD, app] at h2 g2 ⊢
          simp [fDict, hg, e3, e4, ix_tup, eq_str, o1, o2, o3, o4, x1, x2, x3]
          rw [h2]
          simp [fTuple]
        | drop k =>
          simp only [ddD, app] at h2 g2 ⊢
          cases hk : getL l k with
          | none =>
            rw [drop_none hk] at h2 g2 ⊢
            simp [fDict, hg, e3, e4, ix_tup, eq_str, o1, o2, o3, o4, x8, x9, isDc, dPop2, keyD, get_kv, hk]
            rw [h2]
            simp [fTuple]
          | some v =>
            simp [fDict, hg, e3, e4, ix_tup, eq_str, o1, o2, o3, o4, x8, x9, isDc, dPop2, keyD, get_kv, hk, drop_kv]
            rw [h2]
            simp [fTuple]
        | put k v =>
          simp only [ddD, app] at h2 g2 ⊢
          simp [fDict, hg, e3, e4, ix_tup, eq_str, o1, o2, o3, o4, x4, x5, mSetI, dSet, keyD, hb, put_kv]
          rw [h2]
          simp [fTuple]
        | add k v =>
          simp only [ddD, app] at h2 g2 ⊢
          cases hk : getL l k with
          | none =>
            rw [hk] at h2 g2
            simp only [Option.getD_none, Int.zero_add] at h2 g2 ⊢
            simp [fDict, hg, e3, e4, ix_tup, eq_str, o1, o2, o3, o4, x6, x7, mSetI, dSet, keyD, hb, put_kv, isDc, dGet2, get_kv, dMod, hk]
            rw [h2]
            simp [fTuple]
          | some v =>
            rw [hk] at h2 g2
            simp only [Option.getD_some] at h2 g2 ⊢
            simp [fDict, hg, e3, e4, ix_tup, eq_str, o1, o2, o3, o4, x6, x7, mSetI, dSet, keyD, hb, put_kv, isDc, dGet2, get_kv, dMod, hk]
            rw [h2]
            simp [fTuple]
      · trivial
    · trivial
  · trivial
end Mm
namespace Mm
open PySem L2 Mw
open PyProof.Rows hiding St
theorem lastD_cons (d : D) (ds : List D) (w : Option D) : lastD (d :: ds) w = lastD ds (some d) := by
  unfold lastD
  cases ds with
  | nil => rfl
  | cons a r =>
    rw [List.getLast?_cons_cons]
    cases h : (a :: r).getLast? with
    | none => simp at h
    | some z => rfl
/-- a walk, by what holds of the rest -/
theorem forGo_rel {α : Type} {i : Nat} {B : MS0} {s : Src} (E : α → Option D → En) (Hh : α → Gp) (Q : α → List D → Prop) (hset : ∀ a w d, (E a w).set i (some d) = E a (some d)) (hst : ∀ a rest, Q a rest → s.still (Hh a) = true)
    (hB : ∀ a d rest, Q a (d :: rest) → ∃ a', B (E a (some d)) (Hh a) = .nx (E a' (some d)) (Hh a') ∧ Q a' rest) : ∀ (ds : List D) (a : α) (w : Option D), Q a ds → ∃ a', forGo (.nm i) B s ds (E a w) (Hh a) = .nx (E a' (lastD ds w)) (Hh a') ∧ Q a' []
  | [], a, w, q => ⟨a, rfl, q⟩
  | d :: ds, a, w, q => by
    obtain ⟨a1, h1, q1⟩ := hB a d ds q
    obtain ⟨a2, h2, q2⟩ := forGo_rel E Hh Q hset hst hB ds a1 (some d) q1
    refine ⟨a2, ?_, q2⟩
    rw [forGo]
    simp only [Tg.set]
    rw [hset, h1]
    dsimp only
    rw [if_pos (hst _ _ q1), h2, lastD_cons]
theorem mFor_rel {α : Type} {i : Nat} {it : MI0} {B : MS0} {s : Src} {e : En} {G : Gp} (E : α → Option D → En) (Hh : α → Gp) (Q : α → List D → Prop) (a : α) (w : Option D) (he : e = E a w) (hi : it e G = .ok s (Hh a)) (q : Q a s.ds) (hset : ∀ a w d, (E a w).set i (some d) = E a (some d)) (hst : ∀ a rest, Q a rest → s.still (Hh a) = true)
    (hB : ∀ a d rest, Q a (d :: rest) → ∃ a', B (E a (some d)) (Hh a) = .nx (E a' (some d)) (Hh a') ∧ Q a' rest) : ∃ a', mFor (.nm i) it B e G = .nx (E a' (lastD s.ds w)) (Hh a') ∧ Q a' [] := by
  obtain ⟨a', h, q'⟩ := forGo_rel (s := s) E Hh Q hset hst hB s.ds a w q
  refine ⟨a', ?_, q'⟩
  unfold mFor
  rw [hi]
  dsimp only
  rw [if_pos (hst _ _ q), he, h]
def dds? : List D → Option (List Dd)
  | [] => some []
  | d :: r => (match dd? d, dds? r with
    | some a, some l => some (a :: l)
    | _, _ => none)
theorem dds_inv : ∀ {ds : List D} {l : List Dd}, dds? ds = some l → ds = l.map ddD
  | [], l, h => by cases h; rfl
  | d :: ds, l, h => by
    unfold dds? at h
    split at h
    · rename_i a m h1 h2
      cases h
      rw [dd_inv h1, dds_inv h2]
      rfl
    · cases h
theorem dds_D : ∀ l : List Dd, dds? (l.map ddD) = some l
  | [] => rfl
  | a :: l => by
    rw [List.map_cons, dds?, dd_D, dds_D l]
theorem fold_nodup {l : List KV} (h : (keysL l).Nodup) (ds : List Dd) : (keysL (ds.foldl afterL l)).Nodup := by
  induction ds generalizing l with
  | nil => exact h
  | cons d ds ih => exact ih (sortKV_nodup (app_nodup h d))
theorem afterL_len (l : List KV) (d : Dd) : (afterL l d).length ≤ l.length + 1 := by
  unfold afterL
  rw [(sortKV_perm _).length_eq]
  exact app_len l d
def seqOf (d : D) (G : Gp) : Option (List D) := match d with
  | .tup es => some es
  | .ref n => (match G[n]? with
    | some (.lst es) => some es
    | _ => none)
  | _ => none
theorem src_seq {d : D} {G : Gp} {es : List D} (h : seqOf d G = some es) (J : Gp) : ∃ s : Src, s.ds = es ∧ dSrc d (G ++ J) = .ok s (G ++ J) ∧ ∀ J', s.still (G ++ J') = true := by
  unfold seqOf at h
  split at h
  · cases h; exact ⟨⟨_, none⟩, rfl, rfl, fun _ => rfl⟩
  · rename_i n
    split at h
    · rename_i g
      cases h
      have g' : ∀ J', (G ++ J')[n]? = some (.lst es) := fun J' => by rw [List.getElem?_append_left (List.getElem?_eq_some_iff.mp g).1, g]
      exact ⟨⟨es, some n⟩, rfl, by simp only [dSrc, g' J], fun J' => Src.still_some (g' J')⟩
    · cases h
  · cases h
/-- the dicts on the way stay small -/
def fits : List KV → List Dd → Bool
  | _, [] => true
  | l, a :: as => decide (l.length < 60) && fits (afterL l a) as
theorem fits_len : ∀ (as : List Dd) (l : List KV), l.length + as.length < 60 → fits l as = true
  | [], _, _ => rfl
  | a :: as, l, h => by
    rw [List.length_cons] at h
    rw [fits, decide_eq_true (show l.length < 60 by omega), fits_len as (afterL l a) (by have := afterL_len l a; omega)]
    rfl
def C_after_all : FM := fun ds G => match ds with
  | [.tup ts, d] => (match kvs? ts, (seqOf d G).bind dds? with
    | some l, some as => if (keysL l).Nodup ∧ fits l as = true then .ok (.tup ((as.foldl afterL l).map Mw.pairD)) G else .bad
    | _, _ => .bad)
  | _ => .bad
theorem after_eq {G : Gp} {l : List KV} {a : Dd} (hn : (keysL l).Nodup) (hl : l.length < 60) : C_after [.tup (l.map Mw.pairD), ddD a] G = .ok (.tup ((afterL l a).map Mw.pairD)) G := by
  show (match kvs? (l.map Mw.pairD), dd? (ddD a) with
    | some l, some a => if (keysL l).Nodup ∧ l.length < 60 then R.ok (D.tup ((afterL l a).map Mw.pairD)) G else .bad
    | _, _ => .bad) = _
  rw [kvs_D, dd_D]
  exact if_pos ⟨hn, hl⟩
theorem K_after_all {Γ : Fns} {xs : List Nat} (h4 : Kn Γ 4 2 C_after) : Cleans 2 (fnRun N_after_all.length (eB Γ xs b_after_all)) C_after_all := by
  intro ds G hl hc hlt
  unfold C_after_all
  split
  · rename_i ts d
    split
    · rename_i l as hl' ha
      split
      · rename_i hcond
        obtain ⟨hn, hlen⟩ := hcond
        obtain rfl := kvs_inv hl'
        obtain ⟨es, hes, has⟩ := Option.bind_eq_some_iff.mp ha
        obtain rfl := dds_inv has
        refine clr_ok ⟨[], ?_⟩ (Nat.le_refl _) hc (lt_pairs _)
        rw [List.append_nil]
        simp [fnRun, b_after_all, startD, N_after_all]
        obtain ⟨s, s1, s2, s3⟩ := src_seq hes []
        rw [List.append_nil] at s2
        have s4 : s.still G = true := by have := s3 []; rwa [List.append_nil] at this
        obtain ⟨a', h1, h2⟩ := mFor_rel (i := 2) (it := miVal (mVar 1)) (B := mSeq (mAsg (.nm 0) (mCallF (Γ.ar 4) (Γ.F 4) (maCons (mVar 0) (maCons (mVar 2) maNil)))) mNext) (s := s) (e := [some (.tup (l.map Mw.pairD)), some d, none]) (G := G)
          (E := fun (m : List KV) w => [some (.tup (m.map Mw.pairD)), some d, w]) (Hh := fun _ => G) (Q := fun m rest => ∃ bs : List Dd, rest = bs.map ddD ∧ (keysL m).Nodup ∧ fits m bs = true ∧ bs.foldl afterL m = as.foldl afterL l) l none rfl (by simp [s2]) ⟨as, s1, hn, hlen, rfl⟩ (fun _ _ _ => rfl) (fun _ _ _ => s4) (fun m x rest hq => by
            obtain ⟨bs, e1, e2, e3, e4⟩ := hq
            cases bs with
            | nil => cases e1
            | cons b bs =>
              rw [List.map_cons] at e1
              obtain ⟨rfl, rfl⟩ := List.cons.inj e1
              rw [fits] at e3
              obtain ⟨e5, e6⟩ := ba e3
              refine ⟨afterL m b, ?_, bs, rfl, sortKV_nodup (app_nodup e2 b), e6, e4⟩
              simp [h4.1, h4.2, after_eq e2 (of_decide_eq_true e5)])
        rw [h1]
        obtain ⟨bs, e1, e2, e3, e4⟩ := h2
        cases bs with
        | cons _ _ => cases e1
        | nil =>
          simp
          rw [← e4]
          rfl
      · trivial
    · trivial
  · trivial
end Mm
namespace Mm
open PySem L2 Mw
open PyProof.Rows hiding St
theorem isWithin_inv {d : D} {lo hi : Int} (h : isWithin d lo hi = true) : ∃ i, d = .int i ∧ lo ≤ i ∧ i ≤ hi := by
  unfold isWithin at h
  split at h
  · rename_i i
    obtain ⟨h1, h2⟩ := ba h
    exact ⟨i, rfl, of_decide_eq_true h1, of_decide_eq_true h2⟩
  · cases h
theorem isKey_inv {d : D} (h : isKey d = true) : ∃ x, d = .str x ∧ isKeyS x = true := by
  unfold isKey at h
  split at h
  · exact ⟨_, rfl, h⟩
  · cases h
theorem isPair_inv2 {d : D} (h : isPair d = true) : ∃ x i, d = Mw.pairD (x, i) ∧ isKeyS x = true ∧ 0 ≤ i ∧ i ≤ 9999 := by
  unfold isPair at h
  split at h
  · rename_i k v
    obtain ⟨h1, h2⟩ := ba h
    obtain ⟨x, rfl, hx⟩ := isKey_inv h1
    obtain ⟨i, rfl, hi⟩ := isWithin_inv h2
    exact ⟨x, i, rfl, hx, hi⟩
  · cases h
theorem pairs_inv : ∀ {ds : List D}, ds.all isPair = true → ∃ l : List KV, ds = l.map Mw.pairD
  | [], _ => ⟨[], rfl⟩
  | d :: ds, h => by
    rw [List.all_cons] at h
    obtain ⟨h1, h2⟩ := ba h
    obtain ⟨x, i, rfl, _⟩ := isPair_inv2 h1
    obtain ⟨l, rfl⟩ := pairs_inv h2
    exact ⟨(x, i) :: l, rfl⟩
theorem isDeed_inv {d : D} (h : isDeed d = true) : ∃ a, d = ddD a := by
  unfold isDeed at h
  split at h
  · rename_i x r
    split at h
    · rename_i e
      cases r with
      | nil => exact ⟨.non, by rw [e]; rfl⟩
      | cons _ _ => cases h
    · split at h
      · rename_i e
        split at h
        · rename_i k
          obtain ⟨y, rfl, _⟩ := isKey_inv h
          exact ⟨.drop y, by rw [e]; rfl⟩
        · cases h
      · obtain ⟨h1, h2⟩ := ba h
        split at h2
        · rename_i k v
          obtain ⟨h3, h4⟩ := ba h2
          obtain ⟨y, rfl, _⟩ := isKey_inv h3
          obtain ⟨i, rfl, _⟩ := isWithin_inv h4
          rw [Bool.or_eq_true] at h1
          rcases h1 with h1 | h1
          · exact ⟨.put y i, by rw [of_decide_eq_true h1]; rfl⟩
          · exact ⟨.add y i, by rw [of_decide_eq_true h1]; rfl⟩
        · cases h2
  · cases h
theorem deeds_inv : ∀ {ds : List D}, ds.all isDeed = true → ∃ l : List Dd, ds = l.map ddD
  | [], _ => ⟨[], rfl⟩
  | d :: ds, h => by
    rw [List.all_cons] at h
    obtain ⟨h1, h2⟩ := ba h
    obtain ⟨a, rfl⟩ := isDeed_inv h1
    obtain ⟨l, rfl⟩ := deeds_inv h2
    exact ⟨a :: l, rfl⟩
/-- rising keys -/
theorem asc_pw : ∀ (l : List KV), ascend (l.map Mw.pairD) = true → (keysL l).Pairwise (fun x y => x.cps.toList < y.cps.toList)
  | [], _ => .nil
  | [a], _ => by simp
  | a :: b :: l, h => by
    obtain ⟨h1, h2⟩ := ba (show (ltS a.1 b.1 && ascend ((b :: l).map Mw.pairD)) = true from h)
    have ih := asc_pw (b :: l) h2
    have h3 : a.1.cps.toList < b.1.cps.toList := of_decide_eq_true h1
    show (a.1 :: keysL (b :: l)).Pairwise _
    refine List.pairwise_cons.mpr ⟨fun z hz => ?_, ih⟩
    rcases List.mem_cons.mp (show z ∈ b.1 :: keysL l from hz) with q | q
    · rw [q]; exact h3
    · exact List.lt_trans h3 ((List.pairwise_cons.mp (show (b.1 :: keysL l).Pairwise _ from ih)).1 z q)
theorem asc_nodup {l : List KV} (h : ascend (l.map Mw.pairD) = true) : (keysL l).Nodup := (asc_pw l h).imp fun {x y} h z => by
  rw [z] at h
  exact List.lt_irrefl _ h
theorem asc_sorted {l : List KV} (h : ascend (l.map Mw.pairD) = true) : sortKV l = l := by
  refine (kv_unique (List.Perm.refl _) (asc_nodup h) ?_).symm
  have := asc_pw l h
  rw [List.pairwise_map] at this
  refine this.imp fun {a b} h => ?_
  show leS a.1 b.1 = true
  rw [leS_iff]
  exact List.le_of_lt h
theorem sorted_asc : ∀ {l : List KV}, (keysL l).Nodup → l.Pairwise (fun a b => leKV a b = true) → ascend (l.map Mw.pairD) = true
  | [], _, _ => rfl
  | [a], _, _ => rfl
  | a :: b :: l, hn, h => by
    obtain ⟨h1, h2⟩ := List.pairwise_cons.mp h
    have hn2 : a.1 ∉ keysL (b :: l) ∧ (keysL (b :: l)).Nodup := by simpa [keysL] using hn
    show (ltS a.1 b.1 && ascend ((b :: l).map Mw.pairD)) = true
    rw [sorted_asc hn2.2 h2, Bool.and_true]
    have h3 := leS_iff.mp (h1 b List.mem_cons_self)
    refine decide_eq_true (Std.lt_of_le_of_ne h3 fun z => ?_)
    exact hn2.1 (by rw [show a.1 = b.1 from PySem.W.str_of_cps z]; exact List.mem_cons_self)
def C_done : FM := fun ds G => match ds with
  | [t, d] => if okTs G t = true then (if areThings t = true then (match t, d with
      | .tup ts, .tup es => (match kvs? ts, decide (es.length ≤ 1000) && es.all (okT G) with
        | some l, true => if es.all isDeed = true then (match dds? es with
            | some as => if fits l as = true then .ok (.tup ((as.foldl afterL l).map Mw.pairD)) G else .bad
            | none => .bad) else .exc 1 G
        | _, _ => .bad)
      | _, d => if okE G d = true then .exc 1 G else .bad) else .exc 2 G) else .bad
  | _ => .bad
theorem things_eq {G : Gp} {d : D} (h : okTs G d = true) : C_are_things [d] G = .ok (.bl (areThings d)) G := if_pos h
theorem deed_eq {G : Gp} {d : D} (h : okT G d = true) : C_is_deed [d] G = .ok (.bl (isDeed d)) G := if_pos h
theorem all_eq {G : Gp} {l : List KV} {as : List Dd} {d : D} (hd : seqOf d G = some (as.map ddD)) (hn : (keysL l).Nodup) (hl : fits l as = true) : C_after_all [.tup (l.map Mw.pairD), d] G = .ok (.tup ((as.foldl afterL l).map Mw.pairD)) G := by
  unfold C_after_all
  dsimp only
  rw [kvs_D, hd]
  simp only [Option.bind_some, dds_D]
  rw [if_pos ⟨hn, hl⟩]
theorem okE_app {G J : Gp} {d : D} (h : okE G d = true) : okE (G ++ J) d = true := by
  cases d with
  | ref n =>
    have h' : seen (.ref n) G = true := h
    show seen (.ref n) (G ++ J) = true
    unfold seen at h' ⊢
    dsimp only at h' ⊢
    split at h'
    · rename_i g
      rw [List.getElem?_append_left (List.getElem?_eq_some_iff.mp g).1, g]
    · rename_i g
      rw [List.getElem?_append_left (List.getElem?_eq_some_iff.mp g).1, g]
    · cases h'
  | _ => exact h
theorem okT_app {G J : Gp} {d : D} (h : okT G d = true) : okT (G ++ J) d = true := by
  cases d with
  | tup ds =>
    have h' : ds.all (okE G) = true := h
    show ds.all (okE (G ++ J)) = true
    rw [List.all_eq_true] at h' ⊢
    exact fun z hz => okE_app (h' z hz)
  | ref n => exact okE_app (d := .ref n) h
  | non => exact h
  | bl _ => exact h
  | int _ => exact h
  | str _ => exact h
  | scr _ => exact h
  | exn _ _ => exact h
theorem bad_deeds {Γ : Fns} (h2 : Kn Γ 2 1 C_is_deed) {t : Option D} {es : List D} {G : Gp} (hl : es.length ≤ 1000) (he : es.all (okT G) = true) : ∃ J, mLc (.nm 2) (miVal (mVar 1)) (mNotT (mTru (mCallF (Γ.ar 2) (Γ.F 2) (maCons (mVar 2) maNil)))) (mVar 2) [2] [t, some (.tup es), none] G = .ok (.ref G.length) (G ++ .lst (es.filterMap fun d => if isDeed d = true then none else some d) :: J) := by
  refine mLc_ok (s := ⟨es, none⟩) _ rfl rfl (by simp; omega) fun d hd acc J => ?_
  have hd' : okT (G ++ .lst acc :: J) d = true := okT_app (List.all_eq_true.mp he d hd)
  refine ⟨_, !isDeed d, J, rfl, by simp [wipeE, h2.1, h2.2, deed_eq hd'], ?_⟩
  cases hh : isDeed d
  · exact .inr ⟨rfl, d, J, by simp [hh], by simp [wipeE]⟩
  · exact .inl ⟨rfl, by simp [hh]⟩
theorem bad_empty (es : List D) : (es.filterMap fun d => if isDeed d = true then none else some d).isEmpty = es.all isDeed := by
  rw [Bool.eq_iff_iff, List.isEmpty_iff, List.filterMap_eq_nil_iff, List.all_eq_true]
  constructor
  · intro h d hd
    have := h d hd
    split at this
    · assumption
    · cases this
  · intro h d hd
    rw [if_pos (h d hd)]
theorem K_done {Γ : Fns} {xs : List Nat} (h2 : Kn Γ 2 1 C_is_deed) (h3 : Kn Γ 3 1 C_are_things) (h5 : Kn Γ 5 2 C_after_all) : Cleans 2 (fnRun N_done.length (eB Γ xs b_done)) C_done := by
  intro ds G hl hc hlt
  unfold C_done
  split
  · rename_i t d
    split
    · rename_i ht
      split
      · rename_i hat
        split
        · rename_i ts es
          split
          · rename_i l hl' he
            obtain ⟨he1, he2⟩ := ba he
            have hlen := of_decide_eq_true he1
            obtain rfl := kvs_inv hl'
            have hat' := (ba (show ((l.map Mw.pairD).all isPair && ascend (l.map Mw.pairD)) = true from hat)).2
            obtain ⟨J, hJ⟩ := bad_deeds h2 (t := some (.tup (l.map Mw.pairD))) (G := G) hlen he2
            have hE := bad_empty es
            generalize (es.filterMap fun d => if isDeed d = true then none else some d) = B at hJ hE
            split
            · rename_i hd
              split
              · rename_i as has
                split
                · rename_i hl2
                  obtain rfl := dds_inv has
                  refine clr_ok ⟨.lst B :: J, ?_⟩ (Nat.le_refl _) hc (lt_pairs _)
                  simp [fnRun, b_done, startD, N_done, h3.1, h3.2, things_eq ht, hat]
                  rw [hJ]
                  simp only [R.bind_ok, tru_lst mid, hE, hd]
                  simp [h5.1, h5.2, all_eq (d := .tup (as.map ddD)) rfl (asc_nodup hat') hl2]
                · trivial
              · trivial
            · rename_i hd
              have hd' : es.all isDeed = false := by simpa using hd
              refine clr_exc ⟨.lst B :: J, ?_⟩ (Nat.le_refl _) hc
              simp [fnRun, b_done, startD, N_done, h3.1, h3.2, things_eq ht, hat]
              rw [hJ]
              simp only [R.bind_ok, tru_lst mid, hE, hd']
              simp
          · trivial
        · rename_i hne
          split
          · rename_i hd
            refine clr_exc ⟨[], ?_⟩ (Nat.le_refl _) hc
            cases t with
            | tup ts =>
              cases d with
              | tup es => exact absurd rfl (hne ts es rfl)
              | ref n =>
                have hx' := okE_seen hd
                unfold seen at hx'
                dsimp only at hx'
                split at hx'
                · rename_i g
                  simp [fnRun, b_done, startD, N_done, h3.1, h3.2, things_eq ht, hat, isi_lst g]
                · rename_i g
                  simp [fnRun, b_done, startD, N_done, h3.1, h3.2, things_eq ht, hat, isi_dct g]
                · cases hx'
              | scr _ => cases hd
              | exn _ _ => cases hd
              | _ => simp [fnRun, b_done, startD, N_done, h3.1, h3.2, things_eq ht, hat]
            | _ => cases hat
          · trivial
      · rename_i hat
        have hat' : areThings t = false := by simpa using hat
        refine clr_exc ⟨[], ?_⟩ (Nat.le_refl _) hc
        simp [fnRun, b_done, startD, N_done, h3.1, h3.2, things_eq ht, hat']
    · trivial
  · trivial
end Mm
namespace Mm
open PySem L2 Mw
open PyProof.Rows hiding St
def cell (ns : List Int) (k : Int) : Int := (ns[k.toNat]?).getD 0
def C__law_cell : FM := fun ds G => match ds with
  | [.scr ns, .int k] => if 0 ≤ k then .ok (.int (cell ns k)) G else .bad
  | _ => .bad
theorem K__law_cell {Γ : Fns} {xs : List Nat} : Cleans 2 (fnRun N__law_cell.length (eB Γ xs b__law_cell)) C__law_cell := by
  intro ds G hl hc hlt
  unfold C__law_cell
  split
  · rename_i ns k
    split
    · rename_i hk
      refine clr_ok ⟨[], ?_⟩ (Nat.le_refl _) hc rfl
      by_cases h : k < ns.length
      · have e : atI ns k = some (cell ns k) := by
          rw [show k = ((k.toNat : Nat) : Int) by omega, atI_nat _ (by omega), List.getElem?_eq_getElem (by omega)]
          unfold cell
          rw [Int.toNat_natCast, List.getElem?_eq_getElem (by omega)]
          rfl
        simp [fnRun, b__law_cell, startD, N__law_cell, fLen, h, ix_scr e]
      · have e : cell ns k = 0 := by
          unfold cell
          rw [List.getElem?_eq_none (by omega)]
          rfl
        simp [fnRun, b__law_cell, startD, N__law_cell, fLen, h, e]
    · trivial
  · trivial
def seedN (s k : Int) : Int := ((s * 1103515245 + 7919 * k + 12345) % 2147483647) ^ 5 % 2147483647
def C__law_seed : FM := fun ds G => match ds with
  | [.int s, .int k] => .ok (.int (seedN s k)) G
  | _ => .bad
theorem K__law_seed {Γ : Fns} {xs : List Nat} : Cleans 2 (fnRun N__law_seed.length (eB Γ xs b__law_seed)) C__law_seed := by
  intro ds G hl hc hlt
  unfold C__law_seed
  split
  · rename_i s k
    refine clr_ok ⟨[], ?_⟩ (Nat.le_refl _) hc rfl
    have h : ((s * 1103515245 + 7919 * k + 12345) % 2147483647).natAbs < 18446744073709551616 := by omega
    simp [fnRun, b__law_seed, startD, N__law_seed, dMul, dMod, dPow, seedN, h]
  · trivial
def C__law_pick : FM := fun ds G => match ds with
  | [.int s, .int k] => if 0 < k then .ok (.int (s / 97 % k)) G else .bad
  | _ => .bad
theorem K__law_pick {Γ : Fns} {xs : List Nat} : Cleans 2 (fnRun N__law_pick.length (eB Γ xs b__law_pick)) C__law_pick := by
  intro ds G hl hc hlt
  unfold C__law_pick
  split
  · rename_i s k
    split
    · rename_i hk
      refine clr_ok ⟨[], ?_⟩ (Nat.le_refl _) hc rfl
      simp [fnRun, b__law_pick, startD, N__law_pick, dMod, dDiv, hk]
    · trivial
  · trivial
theorem atI_map {α β : Type} (f : α → β) (l : List α) (i : Int) : atI (l.map f) i = (atI l i).map f := by
  unfold atI
  rw [List.length_map]
  cases ixN l.length i with
  | none => rfl
  | some j => exact List.getElem?_map ..
theorem atI_lt {α : Type} (l : List α) (i : Int) (d : α) (h : 0 ≤ i) (h2 : i < l.length) : atI l i = some (l.getD i.toNat d) := by
  have e : i = ((i.toNat : Nat) : Int) := by omega
  rw [e, atI_nat _ (by omega), List.getElem?_eq_getElem (by omega), List.getD_eq_getElem?_getD, Int.toNat_natCast, List.getElem?_eq_getElem (by omega)]
  rfl
def keysC : List Str := ["a", "b", "c", "dd", "zzzz"]
def keyN (s : Int) : Str := keysC.getD (s / 97 % 5).toNat ""
def valN (s : Int) : Int := [s / 7 % 10000, s / 7 % 5, 9999].getD (s / 11 % 3).toNat 0
def deedN (s : Int) : Dd := [Dd.put (keyN s) (valN s), .add (keyN s) (valN s), .drop (keyN s), .put (keyN s) (valN s), .non].getD (s / 13 % 5).toNat .non
def C__law_deed : FM := fun ds G => match ds with
  | [.int s] => .ok (ddD (deedN s)) G
  | _ => .bad
theorem ltD_dd {m : Nat} (a : Dd) : ltD m (ddD a) = true := by cases a <;> rfl
theorem K__law_deed {Γ : Fns} {xs : List Nat} (h9 : Kn Γ 9 2 C__law_pick) : Cleans 1 (fnRun N__law_deed.length (eB Γ xs b__law_deed)) C__law_deed := by
  intro ds G hl hc hlt
  unfold C__law_deed
  split
  · rename_i s
    refine clr_ok ?_ (Nat.le_refl _) hc (ltD_dd _)
    have hp : ∀ G, C__law_pick [.int s, .int 5] G = .ok (.int (s / 97 % 5)) G := fun G => by
      show (if (0 : Int) < 5 then R.ok (D.int (s / 97 % 5)) G else .bad) = _
      rw [if_pos (by decide)]
    have k1 : atI [D.str "a", .str "b", .str "c", .str "dd", .str "zzzz"] (s / 97 % 5) = some (.str (keyN s)) := by
      show atI (keysC.map D.str) _ = _
      rw [atI_map, atI_lt keysC _ "" (by omega) (by show _ < (5 : Int); omega)]
      rfl
    have k2 : atI [D.int (s / 7 % 10000), .int (s / 7 % 5), .int 9999] (s / 11 % 3) = some (.int (valN s)) := by
      show atI (List.map D.int [s / 7 % 10000, s / 7 % 5, 9999]) _ = _
      rw [atI_map, atI_lt _ _ 0 (by omega) (by show _ < (3 : Int); omega)]
      rfl
    have k3 : atI [ddD (.put (keyN s) (valN s)), ddD (.add (keyN s) (valN s)), ddD (.drop (keyN s)), ddD (.put (keyN s) (valN s)), ddD .non] (s / 13 % 5) = some (ddD (deedN s)) := by
      show atI (List.map ddD [Dd.put (keyN s) (valN s), .add (keyN s) (valN s), .drop (keyN s), .put (keyN s) (valN s), .non]) _ = _
      rw [atI_map, atI_lt _ _ .non (by omega) (by show _ < (5 : Int); omega)]
      rfl
    simp only [ddD] at k3
    refine ⟨[.lst [D.str "a", .str "b", .str "c", .str "dd", .str "zzzz"], .lst [D.int (s / 7 % 10000), .int (s / 7 % 5), .int 9999], .lst [ddD (.put (keyN s) (valN s)), ddD (.add (keyN s) (valN s)), ddD (.drop (keyN s)), ddD (.put (keyN s) (valN s)), ddD .non]], ?_⟩
    simp [fnRun, b__law_deed, startD, N__law_deed, dMod, dDiv, h9.1, h9.2, hp, dIx, k1, k2, k3, ddD]
  · trivial
end Mm
namespace Mm
open PySem L2 Mw
open PyProof.Rows hiding St
def C__law_after : FM := fun ds G => match ds with
  | [.tup ts, d] => (match kvs? ts, (seqOf d G).bind dds? with
    | some l, some as => if (keysL l).Nodup ∧ l.length + as.length < 1000 then .ok (.tup ((sortKV (as.foldl app l)).map Mw.pairD)) G else .bad
    | _, _ => .bad)
  | _ => .bad
def B_aft : MS0 := mSeq (mIfS (mCmpB dEq (mBin dIx (mVar 3) (mC (.int 0))) (mC (.str "put"))) (mSeq (mSetI (mVar 2) (mBin dIx (mVar 3) (mC (.int 1))) (mBin dIx (mVar 3) (mC (.int 2)))) mNext) mNext)
  (mSeq (mIfS (mCmpB dEq (mBin dIx (mVar 3) (mC (.int 0))) (mC (.str "add"))) (mSeq (mSetI (mVar 2) (mBin dIx (mVar 3) (mC (.int 1))) (mBin dMod (mBin dAdd (mGet2 (mVar 2) (mBin dIx (mVar 3) (mC (.int 1))) (mC (.int 0))) (mBin dIx (mVar 3) (mC (.int 2)))) (mC (.int 10000)))) mNext) mNext)
  (mSeq (mIfS (mAndT (mCmpB dEq (mBin dIx (mVar 3) (mC (.int 0))) (mC (.str "drop"))) (mCmpB dIn (mBin dIx (mVar 3) (mC (.int 1))) (mVar 2))) (mSeq (mDrop (mPop1 (mVar 2) (mBin dIx (mVar 3) (mC (.int 1))))) mNext) mNext) mNext))
theorem aft_step {P : Gp} {m : List KV} {b : Dd} {t d u v : Option D} (hb : m.length < 100000) : B_aft [t, d, some (.ref P.length), some (ddD b), u, v] (P ++ [.dct (m.map kvD)]) = .nx [t, d, some (.ref P.length), some (ddD b), u, v] (P ++ [.dct ((app m b).map kvD)]) := by
  have o1 : PyData.strOk "none" = true := by decide +kernel
  have o2 : PyData.strOk "drop" = true := by decide +kernel
  have o3 : PyData.strOk "put" = true := by decide +kernel
  have o4 : PyData.strOk "add" = true := by decide +kernel
  have x1 : ¬ ((Str.ofString "none") = Str.ofString "drop") := by decide +kernel
  have x2 : ¬ ((Str.ofString "none") = Str.ofString "put") := by decide +kernel
  have x3 : ¬ ((Str.ofString "none") = Str.ofString "add") := by decide +kernel
  have x4 : ¬ ((Str.ofString "put") = Str.ofString "drop") := by decide +kernel
  have x5 : ¬ ((Str.ofString "put") = Str.ofString "add") := by decide +kernel
  have x6 : ¬ ((Str.ofString "add") = Str.ofString "drop") := by decide +kernel
  have x7 : ¬ ((Str.ofString "add") = Str.ofString "put") := by decide +kernel
  have x8 : ¬ ((Str.ofString "drop") = Str.ofString "put") := by decide +kernel
  have x9 : ¬ ((Str.ofString "drop") = Str.ofString "add") := by decide +kernel
  cases b with
  | non => simp [B_aft, ddD, app, ix_tup, eq_str, o1, o2, o3, o4, x1, x2, x3]
  | put k v => simp [B_aft, ddD, app, ix_tup, eq_str, o1, o2, o3, o4, x4, x5, mSetI, dSet, keyD, hb, put_kv]
  | add k v =>
    cases hk : getL m k <;> simp [B_aft, ddD, app, ix_tup, eq_str, o1, o2, o3, o4, x6, x7, mSetI, dSet, keyD, hb, put_kv, isDc, dGet2, get_kv, dMod, hk]
  | drop k =>
    cases hk : getL m k with
    | none => simp [B_aft, ddD, app, ix_tup, eq_str, o1, o2, o3, o4, x8, x9, dIn, keyD, get_kv, hk, drop_none hk]
    | some v => simp [B_aft, ddD, app, ix_tup, eq_str, o1, o2, o3, o4, x8, x9, dIn, keyD, get_kv, hk, isDc, dPop1, drop_kv]
theorem K__law_after {Γ : Fns} {xs : List Nat} : Cleans 2 (fnRun N__law_after.length (eB Γ xs b__law_after)) C__law_after := by
  intro ds G hl hc hlt
  unfold C__law_after
  split
  · rename_i ts d
    split
    · rename_i l as hl' ha
      split
      · rename_i hcond
        obtain ⟨hn, hlen⟩ := hcond
        obtain rfl := kvs_inv hl'
        obtain ⟨es, hes, has⟩ := Option.bind_eq_some_iff.mp ha
        obtain rfl := dds_inv has
        refine clr_ok ?_ (Nat.le_refl _) hc (lt_pairs _)
        simp [fnRun, b__law_after, startD, N__law_after]
        generalize hm : mLc (.tp [4, 5]) _ _ _ [4, 5] _ _ = r
        have hr : ∃ J, r = .ok (.ref G.length) (G ++ .lst (l.map Mw.pairD) :: J) := by
          rw [← hm]
          obtain ⟨J, hJ⟩ := mLc_ok (t := .tp [4, 5]) (it := miVal (mVar 0)) (tst := mYes) (elt := mTup (maCons (mVar 4) (maCons (mVar 5) maNil))) (vs := [4, 5]) (e := [some (.tup (l.map Mw.pairD)), some d, none, none, none, none]) (G := G) (G1 := G) (s := ⟨l.map Mw.pairD, none⟩) some rfl rfl (by rw [List.length_map]; simp; omega) (fun d hd acc J => by
            obtain ⟨e, _, rfl⟩ := List.mem_map.mp hd
            refine ⟨_, true, J, rfl, rfl, .inr ⟨rfl, _, J, rfl, ?_⟩⟩
            simp [wipeE, Mw.pairD])
          exact ⟨J, by rw [hJ]; simp⟩
        obtain ⟨J, rfl⟩ := hr
        have e3 := pairs_kv l
        have e4 := merge_kv l hn
        generalize hP : G ++ O.lst (l.map Mw.pairD) :: J = P
        have hg : P[G.length]? = some (.lst (l.map Mw.pairD)) := by rw [← hP]; exact mid
        have o1 : PyData.strOk "none" = true := by decide +kernel
        have o2 : PyData.strOk "drop" = true := by decide +kernel
        have o3 : PyData.strOk "put" = true := by decide +kernel
        have o4 : PyData.strOk "add" = true := by decide +kernel
        have x1 : ¬ ((Str.ofString "none") = Str.ofString "drop") := by decide +kernel
        have x2 : ¬ ((Str.ofString "none") = Str.ofString "put") := by decide +kernel
        have x3 : ¬ ((Str.ofString "none") = Str.ofString "add") := by decide +kernel
        have x4 : ¬ ((Str.ofString "put") = Str.ofString "drop") := by decide +kernel
        have x5 : ¬ ((Str.ofString "put") = Str.ofString "add") := by decide +kernel
        have x6 : ¬ ((Str.ofString "add") = Str.ofString "drop") := by decide +kernel
        have x7 : ¬ ((Str.ofString "add") = Str.ofString "put") := by decide +kernel
        have x8 : ¬ ((Str.ofString "drop") = Str.ofString "put") := by decide +kernel
        have x9 : ¬ ((Str.ofString "drop") = Str.ofString "add") := by decide +kernel
        simp [fDict, hg, e3, e4]
        obtain ⟨s, s1, s2, s3⟩ := src_seq hes (O.lst (l.map Mw.pairD) :: J ++ [.dct (l.map kvD)])
        generalize hf : mFor (.nm 3) _ _ _ _ = r
        have hr : ∃ m : List KV, r = .nx [some (.tup (l.map Mw.pairD)), some d, some (.ref P.length), lastD s.ds none, none, none] (P ++ [.dct (m.map kvD)]) ∧ m = as.foldl app l := by
          rw [← hf]
          obtain ⟨m, h1, h2⟩ := mFor_rel (i := 3) (it := miVal (mVar 1)) (s := s) (e := [some (.tup (l.map Mw.pairD)), some d, some (.ref P.length), none, none, none]) (G := P ++ [.dct (l.map kvD)])
            (E := fun (m : List KV) w => [some (.tup (l.map Mw.pairD)), some d, some (.ref P.length), w, none, none]) (Hh := fun m => P ++ [.dct (m.map kvD)]) (Q := fun m rest => ∃ bs : List Dd, rest = bs.map ddD ∧ (keysL m).Nodup ∧ m.length + bs.length < 1000 ∧ bs.foldl app m = as.foldl app l) l none rfl
            (by
              have : P ++ [.dct (l.map kvD)] = G ++ (O.lst (l.map Mw.pairD) :: J ++ [.dct (l.map kvD)]) := by rw [← hP]; simp
              simp [this]
              simpa using s2) ⟨as, s1, hn, hlen, rfl⟩ (fun _ _ _ => rfl) (fun m _ _ => by
              have : P ++ [.dct (m.map kvD)] = G ++ (O.lst (l.map Mw.pairD) :: J ++ [.dct (m.map kvD)]) := by rw [← hP]; simp
              rw [this]
              exact s3 _) (fun m x rest hq => by
              obtain ⟨bs, e1, e2, e3, e4⟩ := hq
              cases bs with
              | nil => cases e1
              | cons b bs =>
                rw [List.map_cons] at e1
                obtain ⟨rfl, rfl⟩ := List.cons.inj e1
                rw [List.length_cons] at e3
                refine ⟨app m b, ?_, bs, rfl, app_nodup e2 b, by have := app_len m b; omega, e4⟩
                have hb : m.length < 100000 := by omega
                exact aft_step hb)
          exact ⟨m, h1, by
            obtain ⟨bs, e1, _, _, e4⟩ := h2
            cases bs with
            | nil => exact e4
            | cons _ _ => cases e1⟩
        obtain ⟨m, rfl, rfl⟩ := hr
        refine ⟨O.lst (l.map Mw.pairD) :: J ++ [.dct ((as.foldl app l).map kvD), .lst ((sortKV (as.foldl app l)).map Mw.pairD)], ?_⟩
        rw [← hP]
        simp [dSItems, kvI_kv, fTuple]
      · trivial
    · trivial
  · trivial
end Mm
namespace Mm
open PySem L2 Mw
open PyProof.Rows hiding St
/-- the keys that the laws use -/
def keysG : List Str := "a" :: "b" :: "c" :: "dd" :: "zzzz" :: "q" :: "lost" :: "new" :: "w" :: "t" :: "ab" :: "ac" :: "ad" :: "ae" :: "af" :: "ag" :: "ah" :: "ai" :: "aj" :: "ak" :: "al" :: "am" :: "an" :: "ao" :: "ap" :: "aq" :: "ar" :: "as" :: []
def GoodE (e : KV) : Prop := e.1 ∈ keysG ∧ 0 ≤ e.2 ∧ e.2 ≤ 9999
structure GoodL (l : List KV) : Prop where
  nd : (keysL l).Nodup
  all : ∀ e ∈ l, GoodE e
def GoodD : Dd → Prop
  | .non => True
  | .put k v => GoodE (k, v)
  | .add k v => GoodE (k, v)
  | .drop k => k ∈ keysG
theorem putL_mem {l : List KV} {k : Str} {v : Int} {e : KV} (h : e ∈ putL l k v) : e ∈ l ∨ e = (k, v) := by
  unfold putL at h
  split at h
  · obtain ⟨x, hx, rfl⟩ := List.mem_map.mp h
    split
    · rename_i hk; exact .inr (by rw [hk])
    · exact .inl hx
  · rcases List.mem_append.mp h with q | q
    · exact .inl q
    · exact .inr (List.mem_singleton.mp q)
theorem GoodL.app {l : List KV} (h : GoodL l) {d : Dd} (hd : GoodD d) : GoodL (app l d) := by
  refine ⟨app_nodup h.nd d, fun e he => ?_⟩
  cases d with
  | non => exact h.all e he
  | put k v =>
    rcases putL_mem he with q | q
    · exact h.all e q
    · rw [q]; exact hd
  | add k v =>
    rcases putL_mem he with q | q
    · exact h.all e q
    · rw [q]
      refine ⟨hd.1, ?_, ?_⟩
      · show 0 ≤ ((getL l k).getD 0 + v) % 10000
        omega
      · show ((getL l k).getD 0 + v) % 10000 ≤ 9999
        omega
  | drop k => exact h.all e ((List.mem_filter.mp he).1)
theorem GoodL.fold {l : List KV} (h : GoodL l) {ds : List Dd} (hd : ∀ d ∈ ds, GoodD d) : GoodL (ds.foldl Mm.app l) := by
  induction ds generalizing l with
  | nil => exact h
  | cons d ds ih => exact ih (h.app (hd d List.mem_cons_self)) fun z hz => hd z (List.mem_cons_of_mem _ hz)
theorem GoodL.sort {l : List KV} (h : GoodL l) : GoodL (sortKV l) := ⟨sortKV_nodup h.nd, fun e he => h.all e ((sortKV_perm l).mem_iff.mp he)⟩
theorem goodL_nil : GoodL [] := ⟨List.nodup_nil, fun _ h => nomatch h⟩
theorem fold_len (l : List KV) (ds : List Dd) : (ds.foldl app l).length ≤ l.length + ds.length := by
  induction ds generalizing l with
  | nil => exact Nat.le_refl _
  | cons d ds ih =>
    have h1 := ih (app l d)
    have h2 := app_len l d
    rw [List.length_cons, List.foldl_cons]
    omega
theorem keysC_key {x : Str} (h : x ∈ keysG) : isKeyS x = true ∧ PyData.strOk x = true ∧ x.length ≤ 1000 := by
  have e : keysG.all (fun x => isKeyS x && (PyData.strOk x && decide (x.length ≤ 1000))) = true := by decide +kernel
  have e2 := List.all_eq_true.mp e x h
  simp only [Bool.and_eq_true, decide_eq_true_eq] at e2
  exact e2
theorem getD_mem {α : Type} {l : List α} {n : Nat} {d : α} (h : n < l.length) : l.getD n d ∈ l := by
  rw [List.getD_eq_getElem?_getD, List.getElem?_eq_getElem h]
  exact List.getElem_mem h
theorem keyN_mem (s : Int) : keyN s ∈ keysG := by
  have h : keyN s ∈ keysC := getD_mem (by show (s / 97 % 5).toNat < 5; omega)
  unfold keysC at h
  unfold keysG
  simp only [List.mem_cons, List.not_mem_nil, or_false] at h ⊢
  rcases h with h | h | h | h | h <;> simp [h]
theorem valN_ok (s : Int) : 0 ≤ valN s ∧ valN s ≤ 9999 := by
  have h : valN s ∈ [s / 7 % 10000, s / 7 % 5, 9999] := getD_mem (by show (s / 11 % 3).toNat < 3; omega)
  simp only [List.mem_cons, List.not_mem_nil, or_false] at h
  omega
theorem deedN_good (s : Int) : GoodD (deedN s) := by
  have h : deedN s ∈ [Dd.put (keyN s) (valN s), .add (keyN s) (valN s), .drop (keyN s), .put (keyN s) (valN s), .non] := getD_mem (by show (s / 13 % 5).toNat < 5; omega)
  simp only [List.mem_cons, List.not_mem_nil, or_false] at h
  rcases h with h | h | h | h | h <;> rw [h]
  · exact ⟨keyN_mem s, valN_ok s⟩
  · exact ⟨keyN_mem s, valN_ok s⟩
  · exact keyN_mem s
  · exact ⟨keyN_mem s, valN_ok s⟩
  · trivial
theorem good_pair {e : KV} (h : GoodE e) (G : Gp) : isPair (Mw.pairD e) = true ∧ okT G (Mw.pairD e) = true := by
  obtain ⟨h1, h2, h3⟩ := keysC_key h.1
  constructor
  · show (isKeyS e.1 && (decide (0 ≤ e.2) && decide (e.2 ≤ 9999))) = true
    rw [h1, decide_eq_true h.2.1, decide_eq_true h.2.2]
    rfl
  · show (okE G (.str e.1) && (okE G (.int e.2) && true)) = true
    rw [show okE G (.str e.1) = (decide (e.1.length ≤ 1000) && PyData.strOk e.1) from rfl, h2, decide_eq_true h3]
    rfl
theorem okE_str {x : Str} {G : Gp} (h : (decide (x.length ≤ 1000) && PyData.strOk x) = true) : okE G (.str x) = true := h
theorem good_deed {d : Dd} (h : GoodD d) (G : Gp) : isDeed (ddD d) = true ∧ okT G (ddD d) = true := by
  have o : ∀ x, x ∈ keysG → okE G (.str x) = true := fun x hx => by
    obtain ⟨h1, h2, h3⟩ := keysC_key hx
    show (decide (x.length ≤ 1000) && PyData.strOk x) = true
    rw [h2, decide_eq_true h3]
    rfl
  have c1 : okE G (.str "none") = true := okE_str (by decide +kernel)
  have c2 : okE G (.str "put") = true := okE_str (by decide +kernel)
  have c3 : okE G (.str "add") = true := okE_str (by decide +kernel)
  have c4 : okE G (.str "drop") = true := okE_str (by decide +kernel)
  cases d with
  | non => exact ⟨by simp [isDeed, ddD], by show (okE G (.str "none") && true) = true; rw [c1]; rfl⟩
  | put k v =>
    obtain ⟨h1, h2, h3⟩ := keysC_key h.1
    constructor
    · have x4 : ¬ ((Str.ofString "put") = Str.ofString "drop") := by decide +kernel
      have x5 : ¬ ((Str.ofString "put") = Str.ofString "none") := by decide +kernel
      have a1 : 0 ≤ v := h.2.1
      have a2 : v ≤ 9999 := h.2.2
      simp [isDeed, ddD, x4, x5, isKey, h1, isWithin, a1, a2]
    · show (okE G (.str "put") && (okE G (.str k) && (okE G (.int v) && true))) = true
      rw [c2, o k h.1]
      rfl
  | add k v =>
    obtain ⟨h1, h2, h3⟩ := keysC_key h.1
    constructor
    · have x4 : ¬ ((Str.ofString "add") = Str.ofString "drop") := by decide +kernel
      have x5 : ¬ ((Str.ofString "add") = Str.ofString "none") := by decide +kernel
      have a1 : 0 ≤ v := h.2.1
      have a2 : v ≤ 9999 := h.2.2
      simp [isDeed, ddD, x4, x5, isKey, h1, isWithin, a1, a2]
    · show (okE G (.str "add") && (okE G (.str k) && (okE G (.int v) && true))) = true
      rw [c3, o k h.1]
      rfl
  | drop k =>
    obtain ⟨h1, h2, h3⟩ := keysC_key h
    constructor
    · have x5 : ¬ ((Str.ofString "drop") = Str.ofString "none") := by decide +kernel
      simp [isDeed, ddD, x5, isKey, h1]
    · show (okE G (.str "drop") && (okE G (.str k) && true)) = true
      rw [c4, o k h]
      rfl
theorem good_things {l : List KV} (h : GoodL l) (hs : l.Pairwise (fun a b => leKV a b = true)) (hl : l.length ≤ 1000) (G : Gp) : areThings (.tup (l.map Mw.pairD)) = true ∧ okTs G (.tup (l.map Mw.pairD)) = true := by
  constructor
  · show ((l.map Mw.pairD).all isPair && ascend (l.map Mw.pairD)) = true
    rw [sorted_asc h.nd hs, Bool.and_true, List.all_eq_true]
    intro d hd
    obtain ⟨e, he, rfl⟩ := List.mem_map.mp hd
    exact (good_pair (h.all e he) G).1
  · show ((l.map Mw.pairD).all (okT G) && decide ((l.map Mw.pairD).length ≤ 1000)) = true
    rw [List.length_map, decide_eq_true hl, Bool.and_true, List.all_eq_true]
    intro d hd
    obtain ⟨e, he, rfl⟩ := List.mem_map.mp hd
    exact (good_pair (h.all e he) G).2
theorem fold_sorted {l : List KV} (hs : l.Pairwise (fun a b => leKV a b = true)) (ds : List Dd) : (ds.foldl afterL l).Pairwise (fun a b => leKV a b = true) := by
  induction ds generalizing l with
  | nil => exact hs
  | cons d ds ih => exact ih (sortKV_pw _)
theorem fold_same {l : List KV} (h : GoodL l) (hs : l.Pairwise (fun a b => leKV a b = true)) {ds : List Dd} (hd : ∀ d ∈ ds, GoodD d) : ds.foldl afterL l = sortKV (ds.foldl app l) :=
  kv_unique (afterL_fold ds l l (List.Perm.refl _) h.nd) (h.fold hd).nd (fold_sorted hs ds)
theorem mapM_some {α β : Type} {f : α → Option β} {g : α → β} : ∀ {l : List α}, (∀ a ∈ l, f a = some (g a)) → l.mapM f = some (l.map g)
  | [], _ => rfl
  | a :: l, h => by
    rw [List.mapM_cons, h a List.mem_cons_self, mapM_some fun z hz => h z (List.mem_cons_of_mem _ hz)]
    rfl
theorem py_things {l : List KV} (h : ∀ e ∈ l, PyData.strOk e.1 = true) (G : Gp) : py G 20 (.tup (l.map Mw.pairD)) = some (.tuple (l.map encKV)) := by
  show ((l.map Mw.pairD).mapM (py G 19)).map PyData.tuple = _
  rw [List.mapM_map]
  rw [mapM_some (g := encKV) fun e he => ?_]
  · rfl
  · show (([D.str e.1, .int e.2]).mapM (py G 18)).map PyData.tuple = _
    simp [py, h e he, encKV]
theorem eqv_things : ∀ l m : List KV, PyData.eqvAll (l.map encKV) (m.map encKV) = decide (l = m)
  | [], [] => by simp [PyData.eqvAll]
  | [], _ :: _ => by simp [PyData.eqvAll]
  | _ :: _, [] => by simp [PyData.eqvAll]
  | a :: l, b :: m => by
    simp only [List.map_cons, PyData.eqvAll, eqv_things l m, encKV, PyData.eqv, Bool.and_true]
    rw [Bool.eq_iff_iff]
    simp [Prod.ext_iff]
theorem eq_things {l m : List KV} (h : ∀ e ∈ l, PyData.strOk e.1 = true) (h' : ∀ e ∈ m, PyData.strOk e.1 = true) (G : Gp) : dEq (.tup (l.map Mw.pairD)) (.tup (m.map Mw.pairD)) G = .ok (decide (l = m)) G := by
  unfold dEq
  rw [py_things h, py_things h']
  show R.ok (PyData.eqvAll (l.map encKV) (m.map encKV)) G = _
  rw [eqv_things]
@[simp high] theorem off0 {H X : Gp} : (H ++ X)[H.length]? = X[0]? := by rw [List.getElem?_append_right (Nat.le_refl _), Nat.sub_self]
@[simp high] theorem off1 {H X : Gp} {k : Nat} : (H ++ X)[H.length + k]? = X[k]? := by rw [List.getElem?_append_right (Nat.le_add_right _ _), Nat.add_sub_cancel_left]
@[simp high] theorem off2 {H X : Gp} {k j : Nat} : (H ++ X)[H.length + k + j]? = X[k + j]? := by rw [Nat.add_assoc]; exact off1
@[simp high] theorem off3 {H X : Gp} {k j i : Nat} : (H ++ X)[H.length + k + j + i]? = X[k + j + i]? := by rw [Nat.add_assoc, Nat.add_assoc, off1, Nat.add_assoc]
theorem step {s t : MS0} {e : En} {G : Gp} (e1 : En) (Q : Gp → Prop) (h : ∃ G1, s e G = .nx e1 G1 ∧ Q G1) (k : ∀ G1, Q G1 → ∃ G', t e1 G1 = .rt (.bl true) G') : ∃ G', mSeq s t e G = .rt (.bl true) G' := by
  obtain ⟨G1, h1, q⟩ := h
  obtain ⟨G', h2⟩ := k G1 q
  exact ⟨G', by unfold mSeq; rw [h1]; exact h2⟩
theorem law_ret {n : Nat} {b : MS0} {ds : List D} {G : Gp} (h : ∃ G', b (startD n ds) G = .rt (.bl true) G') : ∃ G', fnRun n b ds G = .ok (.bl true) G' := by
  obtain ⟨G', h⟩ := h
  exact ⟨G', by unfold fnRun; rw [h]⟩
theorem for3 {i : Nat} {it : MI0} {B : MS0} {e e0 e1 e2 : En} {G G1 G2 G3 : Gp} {d0 d1 d2 : D} (hi : it e G = .ok ⟨[d0, d1, d2], none⟩ G) (h0 : B (e.set i (some d0)) G = .nx e0 G1) (h1 : B (e0.set i (some d1)) G1 = .nx e1 G2) (h2 : B (e1.set i (some d2)) G2 = .nx e2 G3) : mFor (.nm i) it B e G = .nx e2 G3 := by
  unfold mFor
  rw [hi]
  simp only [Src.still, if_true, forGo, Tg.set, h0, h1, h2]
def onInt (g : Int → D) (d : D) : Option D := match d with
  | .int k => some (g k)
  | _ => none
theorem fm_range (g : Int → D) (n : Nat) : (rangeD 0 n).filterMap (onInt g) = (List.range n).map (fun (k : Nat) => g (k : Int)) := by
  unfold rangeD
  rw [List.filterMap_map, ← List.filterMap_eq_map]
  congr 1
  funext k
  show some (g (0 + (k : Int))) = some (g k)
  rw [Int.zero_add]
theorem done_bad {G : Gp} {t d : D} (h : okTs G t = true) (h2 : areThings t = false) : C_done [t, d] G = .exc 2 G := by
  show (if okTs G t = true then (if areThings t = true then _ else R.exc 2 G) else .bad) = _
  rw [if_pos h, if_neg (by rw [h2]; decide)]
theorem done_ok {G : Gp} {l : List KV} {as : List Dd} (h : okTs G (.tup (l.map Mw.pairD)) = true) (h2 : areThings (.tup (l.map Mw.pairD)) = true) (h3 : ∀ a ∈ as, GoodD a) (hl : fits l as = true) (hl2 : as.length ≤ 1000) : C_done [.tup (l.map Mw.pairD), .tup (as.map ddD)] G = .ok (.tup ((as.foldl afterL l).map Mw.pairD)) G := by
  have e1 : (as.map ddD).all (okT G) = true := by
    rw [List.all_eq_true]
    intro d hd
    obtain ⟨a, ha, rfl⟩ := List.mem_map.mp hd
    exact (good_deed (h3 a ha) G).2
  have e2 : (as.map ddD).all isDeed = true := by
    rw [List.all_eq_true]
    intro d hd
    obtain ⟨a, ha, rfl⟩ := List.mem_map.mp hd
    exact (good_deed (h3 a ha) G).1
  unfold C_done
  dsimp only
  rw [if_pos h, if_pos h2, kvs_D, e1, List.length_map, decide_eq_true hl2]
  simp only [Bool.and_true]
  rw [if_pos e2, dds_D]
  simp only
  rw [if_pos hl]
theorem done_odd {G : Gp} {l : List KV} {es : List D} (h : okTs G (.tup (l.map Mw.pairD)) = true) (h2 : areThings (.tup (l.map Mw.pairD)) = true) (h3 : es.all (okT G) = true) (hl : es.length ≤ 1000) (h4 : es.all isDeed = false) : C_done [.tup (l.map Mw.pairD), .tup es] G = .exc 1 G := by
  unfold C_done
  dsimp only
  rw [if_pos h, if_pos h2, kvs_D, h3, decide_eq_true hl]
  simp only [Bool.and_true]
  rw [if_neg (by rw [h4]; decide)]
theorem done_not {G : Gp} {l : List KV} {d : D} (h : okTs G (.tup (l.map Mw.pairD)) = true) (h2 : areThings (.tup (l.map Mw.pairD)) = true) (h3 : okE G d = true) (h4 : ∀ es, d ≠ .tup es) : C_done [.tup (l.map Mw.pairD), d] G = .exc 1 G := by
  unfold C_done
  dsimp only
  rw [if_pos h, if_pos h2]
  cases d with
  | tup es => exact absurd rfl (h4 es)
  | _ => exact if_pos h3
theorem cell_eq {G : Gp} {ns : List Int} {k : Int} (h : 0 ≤ k) : C__law_cell [.scr ns, .int k] G = .ok (.int (cell ns k)) G := if_pos h
theorem laft_eq {G : Gp} {l : List KV} {d : D} {as : List Dd} (hd : seqOf d G = some (as.map ddD)) (hn : (keysL l).Nodup) (hl : l.length + as.length < 1000) : C__law_after [.tup (l.map Mw.pairD), d] G = .ok (.tup ((sortKV (as.foldl app l)).map Mw.pairD)) G := by
  unfold C__law_after
  dsimp only
  rw [kvs_D, hd]
  simp only [Option.bind_some, dds_D]
  rw [if_pos ⟨hn, hl⟩]
theorem atI_mem {α : Type} (l : List α) (i : Int) (h : 0 ≤ i) (h2 : i < l.length) : ∃ a ∈ l, atI l i = some a := by
  have e : i = ((i.toNat : Nat) : Int) := by omega
  have hl : i.toNat < l.length := by omega
  refine ⟨l[i.toNat]'hl, List.getElem_mem _, ?_⟩
  have := atI_nat i.toNat hl
  rw [← e, List.getElem?_eq_getElem hl] at this
  exact this
end Mm
namespace Mm
open PySem L2 Mw
def kyD : Dd → Option Str
  | .non => none
  | .put k _ => some k
  | .add k _ => some k
  | .drop k => some k
def isAdd : Dd → Bool
  | .add _ _ => true
  | _ => false
def numD : Dd → Int
  | .put _ v => v
  | .add _ v => v
  | _ => 0
def actD : Option Int → Dd → Option Int
  | w, .non => w
  | _, .put _ v => some v
  | w, .add _ v => some ((w.getD 0 + v) % 10000)
  | _, .drop _ => none
theorem getL_cons (e : KV) (l : List KV) (x : Str) : getL (e :: l) x = if e.1 = x then some e.2 else getL l x := by
  unfold getL
  rw [List.find?_cons]
  by_cases h : e.1 = x
  · simp [h]
  · simp [h]
theorem getL_app2 (l m : List KV) (x : Str) : getL (l ++ m) x = (getL l x).or (getL m x) := by
  induction l with
  | nil => rfl
  | cons e l ih =>
    rw [List.cons_append, getL_cons, getL_cons, ih]
    split <;> rfl
theorem getL_none {l : List KV} {x : Str} : getL l x = none ↔ x ∉ keysL l := by
  induction l with
  | nil => simp [getL]
  | cons e l ih =>
    rw [getL_cons]
    show _ ↔ x ∉ e.1 :: keysL l
    rw [List.mem_cons]
    by_cases h : e.1 = x
    · simp [h]
    · rw [if_neg h, ih]
      exact ⟨fun a b => b.elim (fun z => h z.symm) a, fun a b => a (.inr b)⟩
theorem getL_put (l : List KV) (k : Str) (v : Int) (x : Str) : getL (putL l k v) x = if k = x then some v else getL l x := by
  unfold putL
  rw [any_key]
  by_cases h : k ∈ keysL l
  · rw [if_pos (decide_eq_true h)]
    induction l with
    | nil => cases h
    | cons e l ih =>
      rw [List.map_cons, getL_cons, getL_cons]
      by_cases he : e.1 = k
      · rw [if_pos he]
        by_cases hx : k = x
        · rw [if_pos (show e.1 = x from he.trans hx), if_pos hx]
        · rw [if_neg (show ¬ e.1 = x from fun z => hx (he.symm.trans z)), if_neg hx, if_neg (show ¬ e.1 = x from fun z => hx (he.symm.trans z))]
          by_cases h2 : k ∈ keysL l
          · have := ih h2
            rw [if_neg hx] at this
            exact this
          · have same : l.map (fun e => if e.1 = k then (e.1, v) else e) = l := by
              have : l.map (fun e => if e.1 = k then (e.1, v) else e) = l.map id := List.map_congr_left fun e he2 => if_neg fun z => h2 (List.mem_map.mpr ⟨e, he2, z⟩)
              rw [this]
              exact List.map_id l
            rw [same]
      · rw [if_neg he]
        have h2 : k ∈ keysL l := (List.mem_cons.mp h).resolve_left fun z => he z.symm
        rw [ih h2]
        by_cases hx : e.1 = x
        · rw [if_pos hx, if_pos hx, if_neg (show ¬ k = x from fun z => he (hx.trans z.symm))]
        · rw [if_neg hx, if_neg hx]
  · rw [if_neg (by simpa using h), getL_app2]
    by_cases hx : k = x
    · subst hx
      rw [getL_none.mpr h, if_pos rfl]
      simp [getL]
    · rw [if_neg hx]
      have : getL [(k, v)] x = none := by simp [getL, hx]
      rw [this]
      cases getL l x <;> rfl
theorem getL_drop (l : List KV) (k x : Str) : getL (dropL l k) x = if k = x then none else getL l x := by
  unfold dropL
  induction l with
  | nil => simp [getL]
  | cons e l ih =>
    rw [List.filter_cons]
    by_cases he : e.1 = k
    · rw [if_neg (by simp [he]), ih, getL_cons]
      by_cases hx : k = x
      · rw [if_pos hx, if_pos hx]
      · rw [if_neg hx, if_neg hx, if_neg (show ¬ e.1 = x from fun z => hx (he.symm.trans z))]
    · rw [if_pos (by simp [he]), getL_cons, ih, getL_cons]
      by_cases hx : k = x
      · rw [if_pos hx, if_neg (show ¬ e.1 = x from fun z => he (z.trans hx.symm)), if_pos hx]
      · rw [if_neg hx, if_neg hx]
theorem getL_one (l : List KV) (d : Dd) (x : Str) : getL (app l d) x = if kyD d = some x then actD (getL l x) d else getL l x := by
  cases d with
  | non => rfl
  | put k v =>
    show getL (putL l k v) x = _
    rw [getL_put]
    simp [kyD, actD]
  | add k v =>
    show getL (putL l k _) x = _
    rw [getL_put]
    by_cases h : k = x
    · subst h
      simp [kyD, actD]
    · simp [kyD, actD, h]
  | drop k =>
    show getL (dropL l k) x = _
    rw [getL_drop]
    simp [kyD, actD]
def ofK (x : Str) (ds : List Dd) : List Dd := ds.filter fun d => decide (kyD d = some x)
theorem getL_fold (x : Str) : ∀ (ds : List Dd) (l : List KV), getL (ds.foldl app l) x = (ofK x ds).foldl actD (getL l x)
  | [], _ => rfl
  | d :: ds, l => by
    show getL (ds.foldl app (app l d)) x = ((d :: ds).filter _).foldl actD _
    rw [getL_fold x ds, getL_one, List.filter_cons]
    by_cases h : kyD d = some x
    · rw [if_pos h, if_pos (decide_eq_true h)]
      rfl
    · rw [if_neg h, if_neg (by simpa using h)]
      rfl
theorem perm_same {α : Type} [BEq α] [LawfulBEq α] {l m : List α} (h1 : l.Nodup) (h2 : m.Nodup) (h : ∀ x, x ∈ l ↔ x ∈ m) : l.Perm m := by
  induction l generalizing m with
  | nil =>
    cases m with
    | nil => exact .refl _
    | cons y m => exact absurd ((h y).mpr List.mem_cons_self) List.not_mem_nil
  | cons x l ih =>
    obtain ⟨n1, n2⟩ := List.nodup_cons.mp h1
    have hx := (h x).mp List.mem_cons_self
    refine (List.Perm.cons x (ih n2 (h2.erase x) fun y => ?_)).trans (List.perm_cons_erase hx).symm
    rw [h2.mem_erase_iff]
    constructor
    · exact fun hy => ⟨fun z => n1 (z ▸ hy), (h y).mp (List.mem_cons_of_mem _ hy)⟩
    · rintro ⟨ne, hy⟩
      exact (List.mem_cons.mp ((h y).mpr hy)).resolve_left ne
theorem mem_getL {l : List KV} (hn : (keysL l).Nodup) (e : KV) : e ∈ l ↔ getL l e.1 = some e.2 := by
  refine ⟨get_mem hn, fun h => ?_⟩
  unfold getL at h
  rw [Option.map_eq_some_iff] at h
  obtain ⟨e', h1, h2⟩ := h
  have h3 := List.find?_some h1
  have a : e'.1 = e.1 := of_decide_eq_true h3
  have b := List.mem_of_find?_eq_some h1
  rw [show e = e' from (Prod.ext a h2).symm]
  exact b
theorem kv_ext {a b : List KV} (ha : (keysL a).Nodup) (hb : (keysL b).Nodup) (h : ∀ x, getL a x = getL b x) : sortKV a = sortKV b := by
  have nd : ∀ {l : List KV}, (keysL l).Nodup → l.Nodup := fun hl => (List.pairwise_map.mp hl).imp fun h e => h (congrArg _ e)
  have p : a.Perm b := perm_same (nd ha) (nd hb) fun e => by rw [mem_getL ha, mem_getL hb, h]
  exact kv_unique ((sortKV_perm a).trans p) hb (sortKV_pw a)
theorem fold_ext {l : List KV} (gl : GoodL l) (sl : l.Pairwise (fun a b => leKV a b = true)) {ds es : List Dd} (gd : ∀ d ∈ ds, GoodD d) (ge : ∀ d ∈ es, GoodD d) (h : ∀ x, (ofK x ds).foldl actD (getL l x) = (ofK x es).foldl actD (getL l x)) : ds.foldl afterL l = es.foldl afterL l := by
  rw [fold_same gl sl gd, fold_same gl sl ge]
  exact kv_ext (gl.fold gd).nd (gl.fold ge).nd fun x => by rw [getL_fold, getL_fold, h]
theorem fold_get {l : List KV} (gl : GoodL l) (sl : l.Pairwise (fun a b => leKV a b = true)) {ds : List Dd} (gd : ∀ d ∈ ds, GoodD d) (x : Str) : getL (ds.foldl afterL l) x = (ofK x ds).foldl actD (getL l x) := by
  rw [fold_same gl sl gd, getL_perm (sortKV_perm _) (sortKV_nodup (gl.fold gd).nd), getL_fold]
def sumD (ds : List Dd) : Int := (ds.map numD).sum
theorem adds_fold : ∀ (ds : List Dd) (w : Option Int), (∀ d ∈ ds, isAdd d = true) → ds.foldl actD w = if ds.isEmpty = true then w else some ((w.getD 0 + sumD ds) % 10000)
  | [], w, _ => rfl
  | d :: ds, w, h => by
    cases d with
    | add k v =>
      show ds.foldl actD (some ((w.getD 0 + v) % 10000)) = some ((w.getD 0 + sumD (Dd.add k v :: ds)) % 10000)
      rw [adds_fold ds _ fun d hd => h d (List.mem_cons_of_mem _ hd)]
      have e : sumD (Dd.add k v :: ds) = v + sumD ds := by simp [sumD, numD]
      rw [e]
      generalize hs : sumD ds = s
      cases ds with
      | nil =>
        have : s = 0 := by rw [← hs]; rfl
        subst this
        simp
      | cons a b =>
        show some (((w.getD 0 + v) % 10000 + s) % 10000) = _
        congr 1
        omega
    | _ => exact absurd (h _ List.mem_cons_self) (by simp [isAdd])
theorem sumD_app (a b : List Dd) : sumD (a ++ b) = sumD a + sumD b := by simp [sumD]
theorem sumD_rev : ∀ a : List Dd, sumD a.reverse = sumD a
  | [] => rfl
  | d :: a => by
    rw [List.reverse_cons, sumD_app, sumD_rev a]
    simp [sumD]
    omega
theorem adds_turn (ds : List Dd) (w : Option Int) (h : ∀ d ∈ ds, isAdd d = true) : ds.foldl actD w = ds.reverse.foldl actD w := by
  rw [adds_fold ds w h, adds_fold ds.reverse w (fun d hd => h d (List.mem_reverse.mp hd)), sumD_rev, List.isEmpty_reverse]
def turnD (ks : List Str) (ds : List Dd) : List Dd := ks.flatMap fun k => ofK k ds
theorem ofK_ofK (x k : Str) (ds : List Dd) : ofK x (ofK k ds) = if x = k then ofK x ds else [] := by
  unfold ofK
  rw [List.filter_filter]
  by_cases h : x = k
  · subst h
    rw [if_pos rfl]
    congr 1
    funext d
    simp
  · rw [if_neg h]
    refine List.filter_eq_nil_iff.mpr fun d _ => ?_
    rw [Bool.and_eq_true, decide_eq_true_eq, decide_eq_true_eq]
    rintro ⟨a, b⟩
    rw [a] at b
    exact h (Option.some.inj b)
theorem ofK_turn (x : Str) (ds : List Dd) : ∀ ks : List Str, ks.Nodup → ofK x (turnD ks ds) = if x ∈ ks then ofK x ds else []
  | [], _ => rfl
  | k :: ks, h => by
    obtain ⟨n1, n2⟩ := List.nodup_cons.mp h
    have e : ofK x (turnD (k :: ks) ds) = ofK x (ofK k ds) ++ ofK x (turnD ks ds) := by
      unfold turnD
      rw [List.flatMap_cons]
      exact List.filter_append ..
    rw [e, ofK_ofK, ofK_turn x ds ks n2]
    by_cases hx : x = k
    · subst hx
      rw [if_pos rfl, if_neg n1, if_pos List.mem_cons_self, List.append_nil]
    · rw [if_neg hx, List.nil_append]
      by_cases hm : x ∈ ks
      · rw [if_pos hm, if_pos (List.mem_cons_of_mem _ hm)]
      · rw [if_neg hm, if_neg fun z => (List.mem_cons.mp z).elim hx hm]
def keysD (ds : List Dd) : List Str := sortS (uniq (ds.filterMap kyD))
theorem keysD_perm (ds : List Dd) : (keysD ds).Perm (uniq (ds.filterMap kyD)) := List.mergeSort_perm _ _
theorem keysD_nodup (ds : List Dd) : (keysD ds).Nodup := (keysD_perm ds).nodup_iff.mpr (nodup_uniq _)
theorem mem_keysD {ds : List Dd} {x : Str} : x ∈ keysD ds ↔ ∃ d ∈ ds, kyD d = some x := by
  rw [(keysD_perm ds).mem_iff, mem_uniq, List.mem_filterMap]
theorem ofK_none {ds : List Dd} {x : Str} (h : x ∉ keysD ds) : ofK x ds = [] := List.filter_eq_nil_iff.mpr fun d hd => by
  rw [decide_eq_true_eq]
  exact fun z => h (mem_keysD.mpr ⟨d, hd, z⟩)
theorem turn_all (x : Str) (ds : List Dd) : ofK x (turnD (keysD ds).reverse ds) = ofK x ds := by
  rw [ofK_turn x ds _ ((List.reverse_perm _).nodup_iff.mpr (keysD_nodup ds))]
  by_cases h : x ∈ keysD ds
  · rw [if_pos (List.mem_reverse.mpr h)]
  · rw [if_neg fun z => h (List.mem_reverse.mp z), ofK_none h]
def baseN : List Dd → Nat → List Nat
  | [], _ => []
  | d :: r, i => if isAdd d = true then baseN r (i + 1) else i :: baseN r (i + 1)
theorem base_adds : ∀ (ds : List Dd) (i : Nat), baseN ds i = [] → ∀ d ∈ ds, isAdd d = true
  | [], _, _ => fun _ h => nomatch h
  | d :: r, i, h => by
    unfold baseN at h
    split at h
    · rename_i hd
      intro z hz
      rcases List.mem_cons.mp hz with rfl | hz
      · exact hd
      · exact base_adds r _ h z hz
    · cases h
theorem base_last : ∀ (ds : List Dd) (i : Nat), baseN ds i = [] ∨ ∃ pre f tail, ds = pre ++ f :: tail ∧ isAdd f = false ∧ (∀ d ∈ tail, isAdd d = true) ∧ ∃ l, baseN ds i = l ++ [i + pre.length]
  | [], _ => .inl rfl
  | d :: r, i => by
    rcases base_last r (i + 1) with h | ⟨pre, f, tail, e1, e2, e3, l, e4⟩
    · by_cases hd : isAdd d = true
      · exact .inl (by unfold baseN; rw [if_pos hd, h])
      · refine .inr ⟨[], d, r, rfl, by simpa using hd, base_adds r _ h, [], ?_⟩
        unfold baseN
        rw [if_neg hd, h]
        rfl
    · refine .inr ⟨d :: pre, f, tail, by rw [e1]; rfl, e2, e3, ?_⟩
      have e : i + (d :: pre).length = i + 1 + pre.length := by
        rw [List.length_cons]
        omega
      rw [e]
      unfold baseN
      rw [e4]
      split
      · exact ⟨l, rfl⟩
      · exact ⟨i :: l, rfl⟩
def baseV : Dd → Int
  | .put _ v => v
  | _ => 0
def isDrop : Dd → Bool
  | .drop _ => true
  | _ => false
/-- what stands there behind all: nothing, or so much -/
theorem last_tells {pre tail : List Dd} {f : Dd} {w : Option Int} (hf : isAdd f = false) (hk : kyD f ≠ none) (hv : 0 ≤ numD f ∧ numD f ≤ 9999) (ht : ∀ d ∈ tail, isAdd d = true) : (pre ++ f :: tail).foldl actD w = if (isDrop f && tail.isEmpty) = true then none else some ((baseV f + sumD tail) % 10000) := by
  rw [List.foldl_append, List.foldl_cons, adds_fold tail _ ht]
  generalize pre.foldl actD w = u
  cases f with
  | non => exact absurd rfl hk
  | add k v => cases hf
  | drop k =>
    cases tail with
    | nil => rfl
    | cons a b => rfl
  | put k v =>
    cases tail with
    | nil =>
      have hv' : 0 ≤ v ∧ v ≤ 9999 := hv
      show some v = some ((v + 0) % 10000)
      congr 1
      omega
    | cons a b => rfl
end Mm
namespace Mv
open PySem L2 Mw Mm
open PyProof.Rows hiding St
theorem ev_asg {Γ : Fns} {xs : List Nat} {i : Nat} {a : ME} {e e1 : En} {G G1 : Gp} {d : D} (h : (eP Γ a).1 e G = .ok d G1) (h1 : e.set i (some d) = e1) : eS Γ xs (.asg (.nm i) a) e G = .nx e1 G1 := by
  rw [eS, mAsg, h, ← h1]
  rfl
theorem ev_blt {Γ : Fns} {b : Blt} {a : ME} {e : En} {G G1 : Gp} {d : D} (h : (eP Γ a).1 e G = .ok d G1) : (eP Γ (.blt b a .nil)).1 e G = b.f [d] G1 := by
  simp only [eP, pl, mCall, eA, maCons, maNil]
  rw [h]
  rfl
theorem ev_ix {Γ : Fns} {a b : ME} {e : En} {G G1 G2 : Gp} {d k : D} (h : (eP Γ a).1 e G = .ok d G1) (h2 : (eP Γ b).1 e G1 = .ok k G2) : (eP Γ (.ix a b)).1 e G = dIx d k G2 := by
  simp only [eP, pl, mBin]
  rw [h, Mw.R.bind_ok, h2, Mw.R.bind_ok]
theorem ev_asgLc {Γ : Fns} {xs : List Nat} {i : Nat} {elt : ME} {t : Tg} {it : MIt} {tst : MO} {own : List (Str × Nat)} {e e1 : En} {G G1 : Gp} {d : D} (h : (eP Γ (.lc elt t it tst own)).1 e G = .ok d G1) (h1 : e.set i (some d) = e1) : eS Γ xs (.asgLc i elt t it tst own) e G = .nx e1 G1 := by
  have h' : mLc t (eI Γ it) (eTst Γ tst) (eP Γ elt).1 (own.map (·.2)) e G = .ok d G1 := h
  rw [eS, mAsg, h', ← h1]
  rfl
def nthS : MB → Nat → MS
  | .cons s _, 0 => s
  | .cons _ r, n + 1 => nthS r n
  | .nil, _ => .pass
def forBody : MS → MB
  | .forS _ _ b => b
  | _ => .nil
theorem seq_nx {s t : MS0} {e e1 : En} {G G1 : Gp} (h : s e G = .nx e1 G1) : mSeq s t e G = t e1 G1 := by
  unfold mSeq
  rw [h]
section
variable {Γ : Fns} {xs : List Nat} {e : En} {G G1 G2 G3 : Gp} {a b : ME} {d d1 d2 : D} {c : Nat} {r : Mw.R D}
theorem ev_var {i : Nat} (h : e[i]? = some (some d)) : (eP Γ (.var i)).1 e G = .ok d G := by simp [h]
theorem ev_int {i : Int} : (eP Γ (.int i)).1 e G = .ok (.int i) G := by simp
theorem ev_call1 (ar : Γ.ar c = 1) (ha : (eP Γ a).1 e G = .ok d G1) (hF : Γ.F c [d] G1 = r) : (eP Γ (.call c (.cons a .nil))).1 e G = r := by
  rw [eP]
  simp only [pl, mCallF, eA, maCons, maNil]
  rw [ha]
  simp [ar, hF]
theorem ev_call2 (ar : Γ.ar c = 2) (ha : (eP Γ a).1 e G = .ok d G1) (hb : (eP Γ b).1 e G1 = .ok d1 G2) (hF : Γ.F c [d, d1] G2 = r) : (eP Γ (.call c (.cons a (.cons b .nil)))).1 e G = r := by
  rw [eP]
  simp only [pl, mCallF, eA, maCons, maNil]
  rw [ha]
  simp only [Mw.R.bind_ok]
  rw [hb]
  simp [ar, hF]
theorem ev_meth0 {gs g : Nat} (ar : Γ.ar c = 1) (hg : e[gs]? = some (some (.ref g))) (I : isIn (.ref g) G = .ok () G) (hF : Γ.F c [.ref g] G = r) : (eP Γ (.meth c (.var gs) .nil)).1 e G = r := by
  rw [eP]
  simp only [pl, mMeth, eA, maNil]
  rw [ev_var hg]
  simp [ar, hF, I]
theorem ev_meth1 {gs g : Nat} (ar : Γ.ar c = 2) (hg : e[gs]? = some (some (.ref g))) (I : isIn (.ref g) G = .ok () G) (ha : (eP Γ a).1 e G = .ok d G1) (hF : Γ.F c [.ref g, d] G1 = r) : (eP Γ (.meth c (.var gs) (.cons a .nil))).1 e G = r := by
  rw [eP]
  simp only [pl, mMeth, eA, maCons, maNil]
  rw [ev_var hg]
  simp only [Mw.R.bind_ok, I]
  rw [ha]
  simp [ar, hF]
theorem ev_meth2 {gs g : Nat} (ar : Γ.ar c = 3) (hg : e[gs]? = some (some (.ref g))) (I : isIn (.ref g) G = .ok () G) (ha : (eP Γ a).1 e G = .ok d G1) (hb : (eP Γ b).1 e G1 = .ok d1 G2) (hF : Γ.F c [.ref g, d, d1] G2 = r) : (eP Γ (.meth c (.var gs) (.cons a (.cons b .nil)))).1 e G = r := by
  rw [eP]
  simp only [pl, mMeth, eA, maCons, maNil]
  rw [ev_var hg]
  simp only [Mw.R.bind_ok, I]
  rw [ha]
  simp only [Mw.R.bind_ok]
  rw [hb]
  simp [ar, hF]
theorem ev_cmpT {o : Cop} {k : Bool} (ha : (eP Γ a).1 e G = .ok d G1) (hb : (eP Γ b).1 e G1 = .ok d1 G2) (hF : o.f d d1 G2 = .ok k G3) : (eP Γ (.cmp o a b)).2 e G = .ok k G3 := by
  rw [eP]
  simp only [mCmpB]
  rw [ha]
  simp only [Mw.R.bind_ok]
  rw [hb]
  simp only [Mw.R.bind_ok]
  exact hF
theorem ev_cmpV {o : Cop} {k : Bool} (ha : (eP Γ a).1 e G = .ok d G1) (hb : (eP Γ b).1 e G1 = .ok d1 G2) (hF : o.f d d1 G2 = .ok k G3) : (eP Γ (.cmp o a b)).1 e G = .ok (.bl k) G3 := by
  rw [eP]
  simp only [mOfB, mCmpB]
  rw [ha]
  simp only [Mw.R.bind_ok]
  rw [hb]
  simp only [Mw.R.bind_ok]
  rw [hF]
  rfl
theorem or_yes {r : MEs} {b2 : ME} (h : (eP Γ a).2 e G = .ok true G1) : (eP Γ (.orE (.cons a (.cons b2 r)))).2 e G = .ok true G1 := by
  rw [eP, eOr]
  simp only [mOrT]
  rw [h]
  simp
theorem or_no {r : MEs} {b2 : ME} (h : (eP Γ a).2 e G = .ok false G1) : (eP Γ (.orE (.cons a (.cons b2 r)))).2 e G = (eP Γ (.orE (.cons b2 r))).2 e G1 := by
  rw [eP, eOr]
  simp only [mOrT]
  rw [h]
  simp [eP]
theorem or_one : (eP Γ (.orE (.cons a .nil))).2 e G = (eP Γ a).2 e G := by rw [eP, eOr]
theorem and_no {r : MEs} {b2 : ME} (h : (eP Γ a).2 e G = .ok false G1) : (eP Γ (.andE (.cons a (.cons b2 r)))).2 e G = .ok false G1 := by
  rw [eP, eAnd]
  simp only [mAndT]
  rw [h]
  simp
theorem and_yes {r : MEs} {b2 : ME} (h : (eP Γ a).2 e G = .ok true G1) : (eP Γ (.andE (.cons a (.cons b2 r)))).2 e G = (eP Γ (.andE (.cons b2 r))).2 e G1 := by
  rw [eP, eAnd]
  simp only [mAndT]
  rw [h]
  simp [eP]
theorem and_one : (eP Γ (.andE (.cons a .nil))).2 e G = (eP Γ a).2 e G := by rw [eP, eAnd]
theorem ev_notT {k : Bool} (h : (eP Γ a).2 e G = .ok k G1) : (eP Γ (.notE a)).2 e G = .ok (!k) G1 := by
  rw [eP]
  simp only [mNotT]
  rw [h]
  rfl
theorem if_no {cd : ME} {bd : MB} (h : (eP Γ cd).2 e G = .ok false G1) : eS Γ xs (.ifS cd bd .nil) e G = .nx e G1 := by
  rw [eS]
  simp only [mIfS]
  rw [h]
  simp
theorem if_yes {cd : ME} {bd b2 : MB} (h : (eP Γ cd).2 e G = .ok true G1) : eS Γ xs (.ifS cd bd b2) e G = eB Γ xs bd e G1 := by
  rw [eS]
  simp only [mIfS]
  rw [h]
theorem if_else {cd : ME} {bd b2 : MB} (h : (eP Γ cd).2 e G = .ok false G1) : eS Γ xs (.ifS cd bd b2) e G = eB Γ xs b2 e G1 := by
  rw [eS]
  simp only [mIfS]
  rw [h]
theorem eB1 {st : MS} {e1 : En} (h : eS Γ xs st e G = .nx e1 G1) : eB Γ xs (.cons st .nil) e G = .nx e1 G1 := by
  rw [eB, seq_nx h]
  rfl
theorem eBc {st : MS} {rest : MB} {e1 : En} (h : eS Γ xs st e G = .nx e1 G1) : eB Γ xs (.cons st rest) e G = eB Γ xs rest e1 G1 := by
  rw [eB, seq_nx h]
/-- a comprehension whose parts change nothing -/
theorem lc_gen {i : Nat} {it : MIt} {elt : ME} {tst : MO} {src : Src} (f : D → Option D) (hit : eI Γ it e G = .ok src G1) (hs : src.still G1 = true) (hl : src.ds.length ≤ 1000) (h : ∀ d ∈ src.ds, ∀ J, eTst Γ tst ((wipeE e [i]).set i (some d)) (G1 ++ J) = .ok (f d).isSome (G1 ++ J) ∧ ∀ y, f d = some y → (eP Γ elt).1 ((wipeE e [i]).set i (some d)) (G1 ++ J) = .ok y (G1 ++ J)) (nm : Str) : ∃ J, (eP Γ (.lc elt (.nm i) it tst [(nm, i)])).1 e G = .ok (.ref G1.length) (G1 ++ .lst (src.ds.filterMap f) :: J) := by
  obtain ⟨J, hJ⟩ := mLc_ok (t := .nm i) (it := eI Γ it) (tst := eTst Γ tst) (elt := (eP Γ elt).1) (vs := [i]) (e := e) (G := G) (G1 := G1) (s := src) f hit hs (by rw [big_eq]; omega) (fun d hd acc J => by
    obtain ⟨h1, h2⟩ := h d hd (.lst acc :: J)
    refine ⟨(wipeE e [i]).set i (some d), (f d).isSome, J, rfl, h1, ?_⟩
    cases hf : f d with
    | none => exact .inl ⟨rfl, rfl⟩
    | some y => exact .inr ⟨rfl, y, J, rfl, h2 y hf⟩)
  exact ⟨J, hJ⟩
end
theorem forGo_any {t : Tg} {B : MS0} {src : Src} (P : Nat → En → Gp → Prop) (hs : ∀ k e G, P k e G → src.still G = true) (hB : ∀ k d e G, src.ds[k]? = some d → P k e G → ∃ e1 e' G', t.set d e = some e1 ∧ (B e1 G = .nx e' G' ∨ B e1 G = .ct e' G') ∧ P (k + 1) e' G') : ∀ (m k : Nat) (e : En) (G : Gp), k + m = src.ds.length → P k e G → ∃ e' G', forGo t B src (src.ds.drop k) e G = .nx e' G' ∧ P src.ds.length e' G'
  | 0, k, e, G, hk, h => by
    have : k = src.ds.length := by omega
    subst this
    rw [List.drop_of_length_le (Nat.le_refl _)]
    exact ⟨e, G, rfl, h⟩
  | m + 1, k, e, G, hk, h => by
    have hkN : k < src.ds.length := by omega
    obtain ⟨e0, e1, G1, h0, h1, p1⟩ := hB k src.ds[k] e G (List.getElem?_eq_getElem hkN) h
    obtain ⟨e2, G2, h2, p2⟩ := forGo_any P hs hB m (k + 1) e1 G1 (by omega) p1
    refine ⟨e2, G2, ?_, p2⟩
    rw [List.drop_eq_getElem_cons hkN, forGo]
    simp only
    rw [h0]
    dsimp only
    rcases h1 with h1 | h1
    · rw [h1]
      dsimp only
      rw [if_pos (hs _ _ _ p1), h2]
    · rw [h1]
      dsimp only
      rw [if_pos (hs _ _ _ p1), h2]
theorem for_any {t : Tg} {it : MI0} {B : MS0} {e : En} {G0 G : Gp} {src : Src} (P : Nat → En → Gp → Prop) (hi : it e G0 = .ok src G) (hs : ∀ k e G, P k e G → src.still G = true) (h0 : P 0 e G) (hB : ∀ k d e G, src.ds[k]? = some d → P k e G → ∃ e1 e' G', t.set d e = some e1 ∧ (B e1 G = .nx e' G' ∨ B e1 G = .ct e' G') ∧ P (k + 1) e' G') : ∃ e' G', mFor t it B e G0 = .nx e' G' ∧ P src.ds.length e' G' := by
  obtain ⟨e2, G2, h2, p2⟩ := forGo_any P hs hB src.ds.length 0 e G (by omega) h0
  refine ⟨e2, G2, ?_, p2⟩
  unfold mFor
  rw [hi]
  dsimp only
  rw [if_pos (hs _ _ _ h0)]
  exact h2
theorem still_lst {ds : List D} {r : Nat} {G : Gp} (h : G[r]? = some (.lst ds)) : (Src.mk ds (some (.lst r))).still G = true := by
  unfold Src.still
  simp only [h]
  exact beqs_self _
theorem still_enu {ds : List D} {r : Nat} {G : Gp} (h : G[r]? = some (.lst ds)) : (Src.mk (enumD ds) (some (.enu r))).still G = true := by
  unfold Src.still
  simp only [h]
  exact beqs_self _
section
variable {Γ : Fns} {xs : List Nat} {e : En} {G G1 : Gp}
theorem at_more {G J : Gp} {x : Nat} {o : O} (h : G[x]? = some o) : (G ++ J)[x]? = some o := by
  rw [List.getElem?_append_left (List.getElem?_eq_some_iff.mp h).1]
  exact h
theorem ev_bin2 {o : Bop} {a b : ME} {x y : D} {G2 : Gp} {r : Mw.R D} (ha : (eP Γ a).1 e G = .ok x G1) (hb : (eP Γ b).1 e G1 = .ok y G2) (h : o.f x y G2 = r) : (eP Γ (.bin o a b)).1 e G = r := by
  rw [eP]
  simp only [pl, mBin, ha, hb, Mw.R.bind_ok]
  exact h
theorem ints_D : ∀ zs : List Int, ints? (zs.map D.int) = some zs
  | [] => rfl
  | z :: zs => by
    show (ints? (zs.map D.int)).map (z :: ·) = _
    rw [ints_D zs]
    rfl
def fDd (p : Dd → Bool) (g : Dd → D) (x : D) : Option D := match dd? x with
  | some d => if p d = true then some (g d) else none
  | none => none
theorem fDd_at (p : Dd → Bool) (g : Dd → D) (d : Dd) : fDd p g (ddD d) = if p d = true then some (g d) else none := by
  unfold fDd
  rw [dd_D]
theorem fm_dd (p : Dd → Bool) (g : Dd → D) : ∀ ds : List Dd, (ds.map ddD).filterMap (fDd p g) = (ds.filter p).map g
  | [] => rfl
  | d :: ds => by
    rw [List.map_cons, List.filterMap_cons, fDd_at, List.filter_cons]
    by_cases h : p d = true
    · rw [if_pos h, if_pos h, List.map_cons, fm_dd p g ds]
    · rw [if_neg h, if_neg h, fm_dd p g ds]
/-- a comprehension over deeds -/
theorem lc_dd {i : Nat} {it : MIt} {elt : ME} {tst : MO} {s : Src} {ds : List Dd} (p : Dd → Bool) (g : Dd → D) (hds : s.ds = ds.map ddD) (hit : eI Γ it e G = .ok s G1) (hs : s.still G1 = true) (hl : ds.length ≤ 1000) (ht : ∀ d ∈ ds, ∀ J, eTst Γ tst ((wipeE e [i]).set i (some (ddD d))) (G1 ++ J) = .ok (p d) (G1 ++ J)) (he : ∀ d ∈ ds, p d = true → ∀ J, (eP Γ elt).1 ((wipeE e [i]).set i (some (ddD d))) (G1 ++ J) = .ok (g d) (G1 ++ J)) (nm : Str) : ∃ J, (eP Γ (.lc elt (.nm i) it tst [(nm, i)])).1 e G = .ok (.ref G1.length) (G1 ++ .lst ((ds.filter p).map g) :: J) := by
  obtain ⟨J, hJ⟩ := lc_gen (Γ := Γ) (elt := elt) (tst := tst) (i := i) (fDd p g) hit hs (by rw [hds, List.length_map]; exact hl) (fun x hx J => by
    rw [hds] at hx
    obtain ⟨d, hd, rfl⟩ := List.mem_map.mp hx
    rw [fDd_at, ht d hd J]
    by_cases h : p d = true
    · rw [if_pos h]
      refine ⟨by rw [h]; rfl, fun y hy => ?_⟩
      cases hy
      exact he d hd h J
    · rw [if_neg h]
      refine ⟨by rw [show p d = false from by simpa using h]; rfl, fun y hy => by cases hy⟩) nm
  rw [hds, fm_dd] at hJ
  exact ⟨J, hJ⟩
def isK (k : Str) (d : Dd) : Bool := decide (kyD d = some k)
theorem ofK_eq (k : Str) (ds : List Dd) : ofK k ds = ds.filter (isK k) := rfl
def hasK (d : Dd) : Bool := (kyD d).isSome
theorem ne_none (d : Dd) (hg : GoodD d) : notR dEq (ddD d) (.tup [.str "none"]) G = .ok (hasK d) G := by
  have ok : ∀ {k : Str} {v : Int}, GoodE (k, v) → PyData.strOk k = true := fun h => (keysC_key h.1).2.1
  have s0 : PyData.strOk "none" = true := by decide +kernel
  have s1 : PyData.strOk "put" = true := by decide +kernel
  have s2 : PyData.strOk "add" = true := by decide +kernel
  have s3 : PyData.strOk "drop" = true := by decide +kernel
  cases d with
  | non => simp [notR, dEq, ddD, py, s0, PyData.eqv, PyData.eqvAll, hasK, kyD]
  | put k v => simp [notR, dEq, ddD, py, s0, s1, ok hg, PyData.eqv, PyData.eqvAll, hasK, kyD]
  | add k v => simp [notR, dEq, ddD, py, s0, s2, ok hg, PyData.eqv, PyData.eqvAll, hasK, kyD]
  | drop k =>
    have s4 : PyData.strOk k = true := (keysC_key hg).2.1
    simp [notR, dEq, ddD, py, s0, s3, s4, PyData.eqv, PyData.eqvAll, hasK, kyD]
theorem key_ok {d : Dd} {k : Str} (hg : GoodD d) (h : kyD d = some k) : k ∈ keysG := by
  cases d with
  | non => cases h
  | put k v => cases h; exact hg.1
  | add k v => cases h; exact hg.1
  | drop k => cases h; exact hg
theorem ix1 {d : Dd} {k : Str} (h : kyD d = some k) : dIx (ddD d) (.int 1) G = .ok (.str k) G := by
  cases d with
  | non => cases h
  | put k v => cases h; rfl
  | add k v => cases h; rfl
  | drop k => cases h; rfl
def nmD : Dd → Str
  | .non => "none"
  | .put _ _ => "put"
  | .add _ _ => "add"
  | .drop _ => "drop"
theorem ix0 (d : Dd) : dIx (ddD d) (.int 0) G = .ok (.str (nmD d)) G := by cases d <;> rfl
theorem nm_ok (d : Dd) : PyData.strOk (nmD d) = true := by
  cases d with
  | non => show PyData.strOk "none" = true; decide +kernel
  | put k v => show PyData.strOk "put" = true; decide +kernel
  | add k v => show PyData.strOk "add" = true; decide +kernel
  | drop k => show PyData.strOk "drop" = true; decide +kernel
theorem is_add (d : Dd) : dEq (.str (nmD d)) (.str "add") G = .ok (isAdd d) G := by
  rw [Mm.eq_str (nm_ok d) (by decide +kernel)]
  cases d <;> rfl
theorem is_drop (d : Dd) : dEq (.str (nmD d)) (.str "drop") G = .ok (isDrop d) G := by
  rw [Mm.eq_str (nm_ok d) (by decide +kernel)]
  cases d <;> rfl
def isPut : Dd → Bool
  | .put _ _ => true
  | _ => false
theorem is_put (d : Dd) : dEq (.str (nmD d)) (.str "put") G = .ok (isPut d) G := by
  rw [Mm.eq_str (nm_ok d) (by decide +kernel)]
  cases d <;> rfl
theorem ix2 {d : Dd} (h : isAdd d = true ∨ isPut d = true) : dIx (ddD d) (.int 2) G = .ok (.int (numD d)) G := by
  cases d with
  | put k v => rfl
  | add k v => rfl
  | non => rcases h with h | h <;> cases h
  | drop k => rcases h with h | h <;> cases h
/-- deed != ("none",) and deed[1] == key -/
def tstK : ME := .andE (.cons (.cmp .ne (.var 16) (.tup (.cons (.str "none") .nil))) (.cons (.cmp .eq (.ix (.var 16) (.int 1)) (.var 8)) .nil))
theorem ev_tstK {d : Dd} {k : Str} (hg : GoodD d) (hk : k ∈ keysG) (h16 : e[16]? = some (some (ddD d))) (h8 : e[8]? = some (some (.str k))) : eTst Γ (.some tstK) e G = .ok (isK k d) G := by
  have n1 := ne_none (G := G) d hg
  show (eP Γ tstK).2 e G = _
  have c1 : (eP Γ (.cmp .ne (.var 16) (.tup (.cons (.str "none") .nil)))).2 e G = .ok (hasK d) G := ev_cmpT (o := .ne) (ev_var h16) (d1 := .tup [.str "none"]) (G2 := G) (by simp) n1
  unfold tstK
  cases hd : kyD d with
  | none =>
    rw [show hasK d = false by unfold hasK; rw [hd]; rfl] at c1
    rw [and_no c1, show isK k d = false by unfold isK; rw [hd]; rfl]
  | some k' =>
    rw [show hasK d = true by unfold hasK; rw [hd]; rfl] at c1
    rw [and_yes c1, and_one]
    have e1 : (eP Γ (.ix (.var 16) (.int 1))).1 e G = .ok (.str k') G := (ev_ix (ev_var h16) ev_int).trans (ix1 hd)
    have q := Mm.eq_str (G := G) (keysC_key (key_ok hg hd)).2.1 (keysC_key hk).2.1
    rw [show isK k d = decide (k' = k) by unfold isK; rw [hd]; simp]
    exact ev_cmpT (o := .eq) e1 (ev_var h8) q
/-- a list that is not empty -/
theorem ne_nil {a b : Nat} {ns : List Int} (ha : G[a]? = some (.lst (ns.map D.int))) (hb : G[b]? = some (.lst [])) : notR dEq (.ref a) (.ref b) G = .ok (!ns.isEmpty) G := by
  have m : (ns.map D.int).mapM (py G 19) = some (ns.map PyData.int) := by
    clear ha
    induction ns with
    | nil => rfl
    | cons n ns ih =>
      rw [List.map_cons, List.mapM_cons, ih]
      rfl
  have p1 : py G 20 (.ref a) = some (.list (ns.map PyData.int)) := by
    show (match G[a]? with
      | some (.lst ds) => (ds.mapM (py G 19)).map PyData.list
      | _ => none) = _
    rw [ha]
    simp only
    rw [m]
    rfl
  have p2 : py G 20 (.ref b) = some (.list []) := by
    show (match G[b]? with
      | some (.lst ds) => (ds.mapM (py G 19)).map PyData.list
      | _ => none) = _
    rw [hb]
    rfl
  unfold notR dEq
  rw [p1, p2]
  cases ns with
  | nil => simp [PyData.eqv, PyData.eqvAll]
  | cons n ns => simp [PyData.eqv, PyData.eqvAll]
/-- the places of what is no add -/
def fBase (x : D) : Option D := match x with
  | .tup [.int k, y] => fDd (fun d => !isAdd d) (fun _ => .int k) y
  | _ => none
theorem base_list (ds : List Dd) : ∀ i : Nat, ((((ds.map ddD).zipIdx i).map fun x => D.tup [.int (x.2 : Nat), x.1]).filterMap fBase) = (baseN ds i).map fun k => D.int (k : Nat) := by
  induction ds with
  | nil => intro i; rfl
  | cons d ds ih =>
    intro i
    rw [List.map_cons, List.zipIdx_cons, List.map_cons, List.filterMap_cons, ih (i + 1)]
    have e : fBase (D.tup [.int (i : Nat), ddD d]) = if (!isAdd d) = true then some (.int (i : Nat)) else none := fDd_at _ _ _
    rw [show (ddD d, i).2 = i from rfl, show (ddD d, i).1 = ddD d from rfl, e]
    have eb : baseN (d :: ds) i = if isAdd d = true then baseN ds (i + 1) else i :: baseN ds (i + 1) := rfl
    rw [eb]
    generalize baseN ds (i + 1) = B
    by_cases h : isAdd d = true
    · simp [h]
    · simp [h]
end
end Mv
namespace Mm
open PySem L2 Mw
open PyProof.Rows hiding St
def scan {α : Type} (p : α → D → Option α) : α → List D → Option α
  | a, [] => some a
  | a, d :: ds => (p a d).bind fun a' => scan p a' ds
theorem forGo_scan {α : Type} {i : Nat} {B : MS0} {s : Src} {G : Gp} (E : α → Option D → En) (p : α → D → Option α) (hset : ∀ a w d, (E a w).set i (some d) = E a (some d)) (hst : s.still G = true)
    (hB : ∀ a d, d ∈ s.ds → B (E a (some d)) G = match p a d with | some a' => .nx (E a' (some d)) G | none => .rt (.bl false) G) : ∀ (ds : List D) (a : α) (w : Option D), (∀ d ∈ ds, d ∈ s.ds) → forGo (.nm i) B s ds (E a w) G = match scan p a ds with | some a' => .nx (E a' (lastD ds w)) G | none => .rt (.bl false) G
  | [], a, w, _ => rfl
  | d :: ds, a, w, hm => by
    rw [forGo]
    simp only [Tg.set]
    rw [hset, hB a d (hm d List.mem_cons_self), scan]
    cases hp : p a d with
    | none => rfl
    | some a' =>
      dsimp only
      rw [if_pos hst, forGo_scan E p hset hst hB ds a' (some d) fun z hz => hm z (List.mem_cons_of_mem _ hz), lastD_cons]
      rfl
theorem mFor_scan {α : Type} {i : Nat} {it : MI0} {B : MS0} {s : Src} {e : En} {G : Gp} (E : α → Option D → En) (p : α → D → Option α) (a : α) (w : Option D) (he : e = E a w) (hi : it e G = .ok s G) (hset : ∀ a w d, (E a w).set i (some d) = E a (some d)) (hst : s.still G = true)
    (hB : ∀ a d, d ∈ s.ds → B (E a (some d)) G = match p a d with | some a' => .nx (E a' (some d)) G | none => .rt (.bl false) G) : mFor (.nm i) it B e G = match scan p a s.ds with | some a' => .nx (E a' (lastD s.ds w)) G | none => .rt (.bl false) G := by
  unfold mFor
  rw [hi]
  dsimp only
  rw [if_pos hst, he, forGo_scan E p hset hst hB s.ds a w fun _ h => h]
def rowStep (hi lo : Int) (d : D) : Option Int := match d with
  | .tup [t, e] => if (isWithin t lo hi && isDeed e) = true then (match t with
    | .int i => some i
    | _ => none) else none
  | _ => none
def areRows (d : D) (lo hi : Int) : Bool := match d with
  | .tup ds => (scan (rowStep hi) lo ds).isSome
  | _ => false
theorem okT_seen {G : Gp} {d : D} (h : okT G d = true) : seen d G = true := by
  cases d with
  | tup ds => rfl
  | ref n => exact okE_seen (d := .ref n) h
  | scr n => cases h
  | exn _ _ => cases h
  | _ => rfl
theorem within_eqT {G : Gp} {d : D} {lo hi : Int} (h : okT G d = true) : C_is_within [d, .int lo, .int hi] G = .ok (.bl (isWithin d lo hi)) G := by
  show (if seen d G = true then R.ok (D.bl (isWithin d lo hi)) G else .bad) = _
  rw [if_pos (okT_seen h)]
def okOne (G : Gp) (d : D) : Bool := match d with
  | .tup ds => ds.all (okT G)
  | d => okE G d
def okRs (G : Gp) (d : D) : Bool := match d with
  | .tup ds => ds.all (okOne G) && decide (ds.length ≤ 1000)
  | d => okE G d
def C_are_rows : FM := fun ds G => match ds with
  | [d, .int lo, .int hi] => if okRs G d = true then .ok (.bl (areRows d lo hi)) G else .bad
  | _ => .bad
theorem K_are_rows {Γ : Fns} {xs : List Nat} (h0 : Kn Γ 0 3 C_is_within) (h2 : Kn Γ 2 1 C_is_deed) : Cleans 3 (fnRun N_are_rows.length (eB Γ xs b_are_rows)) C_are_rows := by
  intro ds G hl hc hlt
  unfold C_are_rows
  split
  · rename_i d lo hi
    split
    · rename_i hs
      refine clr_ok ⟨[], ?_⟩ (Nat.le_refl _) hc rfl
      rw [List.append_nil]
      cases d with
      | tup ds =>
        obtain ⟨hs1, hs2⟩ := ba (show (ds.all (okOne G) && decide (ds.length ≤ 1000)) = true from hs)
        simp [fnRun, b_are_rows, startD, N_are_rows]
        rw [mFor_scan (s := ⟨ds, none⟩) (fun (lo : Int) w => [some (.tup ds), some (.int lo), some (.int hi), w]) (rowStep hi) lo none rfl rfl (fun _ _ _ => rfl) rfl ?hB]
        case hB =>
          intro lo d hd
          have hd' : okOne G d = true := List.all_eq_true.mp hs1 d hd
          cases d with
          | tup l =>
            have hl' : l.all (okT G) = true := hd'
            match l, hl' with
            | [], _ => simp [rowStep, fLen, eq_int]
            | [k], _ => simp [rowStep, fLen, eq_int]
            | [k, v], hkv =>
              have hk : okT G k = true ∧ okT G v = true := by simpa using hkv
              simp [rowStep, fLen, eq_int, ix_tup, h0.1, h0.2, within_eqT hk.1, h2.1, h2.2, deed_eq hk.2]
              cases hw : isWithin k lo hi with
              | false => simp
              | true =>
                obtain ⟨i, rfl, _⟩ := isWithin_inv hw
                cases isDeed v <;> simp [ix_tup]
            | k :: l :: m :: r, _ =>
              have hn : ¬ ((r.length : Int) + 1 + 1 + 1 = 2) := by omega
              simp [rowStep, fLen, eq_int, hn]
          | ref n =>
            have hx' := okE_seen (show okE G (.ref n) = true from hd')
            unfold seen at hx'
            dsimp only at hx'
            split at hx'
            · rename_i g
              simp [rowStep, isi_lst g]
            · rename_i g
              simp [rowStep, isi_dct g]
            · cases hx'
          | scr n => cases hd'
          | exn _ _ => cases hd'
          | _ => simp [rowStep]
        cases hsc : scan (rowStep hi) lo ds with
        | none => simp [areRows, hsc]
        | some a => simp [areRows, hsc]
      | ref n =>
        unfold okRs okE seen at hs
        dsimp only at hs
        split at hs
        · rename_i g
          simp [fnRun, b_are_rows, startD, N_are_rows, isi_lst g, areRows]
        · rename_i g
          simp [fnRun, b_are_rows, startD, N_are_rows, isi_dct g, areRows]
        · cases hs
      | scr ns => cases hs
      | exn _ _ => cases hs
      | _ => simp [fnRun, b_are_rows, startD, N_are_rows, areRows]
    · trivial
  · trivial
def intOf : D → Int
  | .int i => i
  | _ => 0
def isNilT : D → Bool
  | .tup [] => true
  | _ => false
def lenOf : D → Int
  | .tup ds => ds.length
  | _ => 0
def isPaper : D → Bool
  | .tup [t, b, a, th, rs, k] => isWithin t 0 100000 && (isWithin b 0 100000 && (isWithin a 0 (intOf t) && (areThings th && (!((decide (intOf b = 0) && (!decide (intOf a = 0) || !isNilT th)) || (decide (0 < intOf b) && decide (intOf a = 0))) && (areRows rs (max (intOf a) 1) (intOf t) && isWithin k (intOf b) (intOf b + lenOf rs))))))
  | _ => false
def okP (G : Gp) (d : D) : Bool := match d with
  | .tup [t, b, a, th, rs, k] => okE G t && (okE G b && (okE G a && (okTs G th && (okRs G rs && okE G k))))
  | .tup _ => true
  | d => okE G d
def C_is_paper : FM := fun ds G => match ds with
  | [d] => if okP G d = true then .ok (.bl (isPaper d)) G else .bad
  | _ => .bad
theorem isKeyS_ok {x : Str} (h : isKeyS x = true) : PyData.strOk x = true := by
  obtain ⟨_, h2⟩ := ba h
  obtain ⟨_, h3⟩ := ba h2
  unfold PyData.strOk
  rw [← Array.all_toList, List.all_eq_true]
  intro c hc
  have := of_decide_eq_true (List.all_eq_true.mp h3 c hc)
  have hs : ∀ c ∈ small.cps.toList, c < 0x110000 := by decide +kernel
  exact decide_eq_true (hs c this)
theorem things_inv {d : D} (h : areThings d = true) : ∃ l : List KV, d = .tup (l.map Mw.pairD) ∧ (∀ e ∈ l, isKeyS e.1 = true ∧ 0 ≤ e.2 ∧ e.2 ≤ 9999) ∧ ascend (l.map Mw.pairD) = true := by
  unfold areThings at h
  split at h
  · rename_i ds
    obtain ⟨h1, h2⟩ := ba h
    obtain ⟨l, rfl⟩ := pairs_inv h1
    refine ⟨l, rfl, fun e he => ?_, h2⟩
    obtain ⟨x, i, e1, e2⟩ := isPair_inv2 (List.all_eq_true.mp h1 _ (List.mem_map_of_mem he))
    have : e = (x, i) := by
      unfold Mw.pairD at e1
      injection e1 with e1
      injection e1 with e3 e4
      injection e4 with e4 e5
      injection e3 with e3
      injection e4 with e4
      exact Prod.ext e3 e4
    rw [this]
    exact e2
  · cases h
theorem nil_eq {l : List KV} (h : ∀ e ∈ l, PyData.strOk e.1 = true) (G : Gp) : dEq (.tup (l.map Mw.pairD)) (.tup []) G = .ok (isNilT (.tup (l.map Mw.pairD))) G := by
  have := eq_things (m := []) h (fun _ h => nomatch h) G
  rw [List.map_nil] at this
  rw [this]
  cases l <;> simp [isNilT]
theorem rows_eq {G : Gp} {d : D} {lo hi : Int} (h : okRs G d = true) : C_are_rows [d, .int lo, .int hi] G = .ok (.bl (areRows d lo hi)) G := if_pos h
theorem K_is_paper {Γ : Fns} {xs : List Nat} (h0 : Kn Γ 0 3 C_is_within) (h3 : Kn Γ 3 1 C_are_things) (h13 : Kn Γ 13 3 C_are_rows) : Cleans 1 (fnRun N_is_paper.length (eB Γ xs b_is_paper)) C_is_paper := by
  intro ds G hl hc hlt
  unfold C_is_paper
  split
  · rename_i d
    split
    · rename_i hs
      refine clr_ok ⟨[], ?_⟩ (Nat.le_refl _) hc rfl
      rw [List.append_nil]
      cases d with
      | tup ds =>
        match ds, hs with
        | [t, b, a, th, rs, k], hs =>
          obtain ⟨o1, hs⟩ := ba (show (okE G t && (okE G b && (okE G a && (okTs G th && (okRs G rs && okE G k))))) = true from hs)
          obtain ⟨o2, hs⟩ := ba hs
          obtain ⟨o3, hs⟩ := ba hs
          obtain ⟨o4, hs⟩ := ba hs
          obtain ⟨o5, o6⟩ := ba hs
          cases c1 : isWithin t 0 100000 with
          | false => simp [fnRun, b_is_paper, startD, N_is_paper, isPaper, fLen, eq_int, ix_tup, h0.1, h0.2, within_eq o1, c1]
          | true =>
            obtain ⟨ti, rfl, t1, t2⟩ := isWithin_inv c1
            cases c2 : isWithin b 0 100000 with
            | false => simp [fnRun, b_is_paper, startD, N_is_paper, isPaper, fLen, eq_int, ix_tup, h0.1, h0.2, within_eq o1, c1, within_eq o2, c2]
            | true =>
              obtain ⟨bi, rfl, b1, b2⟩ := isWithin_inv c2
              cases c3 : isWithin a 0 ti with
              | false => simp [fnRun, b_is_paper, startD, N_is_paper, isPaper, fLen, eq_int, ix_tup, h0.1, h0.2, within_eq o1, c1, within_eq o2, c2, within_eq o3, c3, intOf]
              | true =>
                obtain ⟨ai, rfl, a1, a2⟩ := isWithin_inv c3
                cases c4 : areThings th with
                | false => simp [fnRun, b_is_paper, startD, N_is_paper, isPaper, fLen, eq_int, ix_tup, h0.1, h0.2, within_eq o1, c1, within_eq o2, c2, within_eq o3, c3, intOf, h3.1, h3.2, things_eq o4, c4]
                | true =>
                  obtain ⟨l, rfl, l1, l2⟩ := things_inv c4
                  have hnil := nil_eq (l := l) (fun e he => isKeyS_ok (l1 e he).1) G
                  have hrest : ∀ lo, areRows rs lo ti = true → ∃ rl, rs = .tup rl := fun lo h => by
                    cases rs with
                    | tup rl => exact ⟨rl, rfl⟩
                    | _ => cases h
                  by_cases z1 : bi = 0
                  · subst z1
                    by_cases z2 : ai = 0
                    · subst z2
                      cases z3 : isNilT (.tup (l.map Mw.pairD)) with
                      | false => simp [fnRun, b_is_paper, startD, N_is_paper, isPaper, fLen, eq_int, ix_tup, h0.1, h0.2, within_eq o1, c1, within_eq o2, c2, within_eq o3, c3, intOf, h3.1, h3.2, things_eq o4, c4, hnil, fMax, h13.1, h13.2, rows_eq o5, z3]
                      | true =>
                        cases c5 : areRows rs (max 0 1) ti with
                        | false =>
                          simp [fnRun, b_is_paper, startD, N_is_paper, isPaper, fLen, eq_int, ix_tup, h0.1, h0.2, within_eq o1, c1, within_eq o2, c2, within_eq o3, c3, intOf, h3.1, h3.2, things_eq o4, c4, hnil, fMax, h13.1, h13.2, rows_eq o5, c5, z3]
                        | true =>
                          obtain ⟨rl, rfl⟩ := hrest _ c5
                          simp [fnRun, b_is_paper, startD, N_is_paper, isPaper, fLen, eq_int, ix_tup, h0.1, h0.2, within_eq o1, c1, within_eq o2, c2, within_eq o3, c3, intOf, h3.1, h3.2, things_eq o4, c4, hnil, fMax, h13.1, h13.2, rows_eq o5, c5, z3, within_eq o6, lenOf]
                    · simp [fnRun, b_is_paper, startD, N_is_paper, isPaper, fLen, eq_int, ix_tup, h0.1, h0.2, within_eq o1, c1, within_eq o2, c2, within_eq o3, c3, intOf, h3.1, h3.2, things_eq o4, c4, hnil, fMax, h13.1, h13.2, rows_eq o5, z2]
                  · have z4 : 0 < bi := by omega
                    by_cases z2 : ai = 0
                    · subst z2
                      simp [fnRun, b_is_paper, startD, N_is_paper, isPaper, fLen, eq_int, ix_tup, h0.1, h0.2, within_eq o1, c1, within_eq o2, c2, within_eq o3, c3, intOf, h3.1, h3.2, things_eq o4, c4, hnil, fMax, h13.1, h13.2, rows_eq o5, z1, z4]
                    · skip
                      cases c5 : areRows rs (max ai 1) ti with
                      | false =>
                        simp [fnRun, b_is_paper, startD, N_is_paper, isPaper, fLen, eq_int, ix_tup, h0.1, h0.2, within_eq o1, c1, within_eq o2, c2, within_eq o3, c3, intOf, h3.1, h3.2, things_eq o4, c4, hnil, fMax, h13.1, h13.2, rows_eq o5, c5, z1, z2, z4]
                      | true =>
                        obtain ⟨rl, rfl⟩ := hrest _ c5
                        simp [fnRun, b_is_paper, startD, N_is_paper, isPaper, fLen, eq_int, ix_tup, h0.1, h0.2, within_eq o1, c1, within_eq o2, c2, within_eq o3, c3, intOf, h3.1, h3.2, things_eq o4, c4, hnil, fMax, h13.1, h13.2, rows_eq o5, c5, z1, z2, z4, within_eq o6, lenOf]
        | [], _ => simp [fnRun, b_is_paper, startD, N_is_paper, isPaper, fLen, eq_int]
        | [_], _ => simp [fnRun, b_is_paper, startD, N_is_paper, isPaper, fLen, eq_int]
        | [_, _], _ => simp [fnRun, b_is_paper, startD, N_is_paper, isPaper, fLen, eq_int]
        | [_, _, _], _ => simp [fnRun, b_is_paper, startD, N_is_paper, isPaper, fLen, eq_int]
        | [_, _, _, _], _ => simp [fnRun, b_is_paper, startD, N_is_paper, isPaper, fLen, eq_int]
        | [_, _, _, _, _], _ => simp [fnRun, b_is_paper, startD, N_is_paper, isPaper, fLen, eq_int]
        | _ :: _ :: _ :: _ :: _ :: _ :: _ :: r, _ =>
          have hn : ¬ ((r.length : Int) + 1 + 1 + 1 + 1 + 1 + 1 + 1 = 6) := by omega
          simp [fnRun, b_is_paper, startD, N_is_paper, isPaper, fLen, eq_int, hn]
      | ref n =>
        unfold okP okE seen at hs
        dsimp only at hs
        split at hs
        · rename_i g
          simp [fnRun, b_is_paper, startD, N_is_paper, isi_lst g, isPaper]
        · rename_i g
          simp [fnRun, b_is_paper, startD, N_is_paper, isi_dct g, isPaper]
        · cases hs
      | scr ns => cases hs
      | exn _ _ => cases hs
      | _ => simp [fnRun, b_is_paper, startD, N_is_paper, isPaper]
    · trivial
  · trivial
end Mm
namespace Mm
open PySem L2 Mw
open PyProof.Rows hiding St
abbrev Rw := Int × Dd
structure Pp where
  term : Int
  base : Int
  ahead : Int
  things : List KV
  rows : List Rw
  kept : Int
def rowD (r : Rw) : D := .tup [.int r.1, ddD r.2]
def ppD (p : Pp) : D := .tup [.int p.term, .int p.base, .int p.ahead, .tup (p.things.map Mw.pairD), .tup (p.rows.map rowD), .int p.kept]
def rows? : List D → Option (List Rw)
  | [] => some []
  | .tup [.int t, d] :: r => (match dd? d, rows? r with
    | some a, some l => some ((t, a) :: l)
    | _, _ => none)
  | _ :: _ => none
theorem rows_inv : ∀ {ds : List D} {l : List Rw}, rows? ds = some l → ds = l.map rowD
  | [], l, h => by cases h; rfl
  | d :: ds, l, h => by
    unfold rows? at h
    split at h
    · cases ‹_ :: _ = []›
    · rename_i t d r q
      cases q
      split at h
      · rename_i a m h1 h2
        cases h
        rw [rows_inv h2, dd_inv h1]
        rfl
      · cases h
    · cases h
theorem rows_D : ∀ l : List Rw, rows? (l.map rowD) = some l
  | [] => rfl
  | r :: l => by
    rw [List.map_cons, rowD, rows?, dd_D, rows_D l]
def pp? : D → Option Pp
  | .tup [.int t, .int b, .int a, .tup th, .tup rs, .int k] => (match kvs? th, rows? rs with
    | some l, some m => some ⟨t, b, a, l, m, k⟩
    | _, _ => none)
  | _ => none
theorem pp_inv {d : D} {p : Pp} (h : pp? d = some p) : d = ppD p := by
  unfold pp? at h
  split at h
  · split at h
    · rename_i l m h1 h2
      cases h
      rw [kvs_inv h1, rows_inv h2]
      rfl
    · cases h
  · cases h
theorem pp_D (p : Pp) : pp? (ppD p) = some p := by
  unfold ppD pp?
  simp only [kvs_D, rows_D]
theorem ltD_row {m : Nat} (r : Rw) : ltD m (rowD r) = true := by
  show (ltD m (.int r.1) && (ltD m (ddD r.2) && true)) = true
  rw [ltD_dd]
  rfl
theorem ltD_rows {m : Nat} (l : List Rw) : ltD m (.tup (l.map rowD)) = true := by
  rw [ltD, ltDs_all]
  intro d hd
  obtain ⟨e, _, rfl⟩ := List.mem_map.mp hd
  exact ltD_row e
theorem ltD_pp {m : Nat} (p : Pp) : ltD m (ppD p) = true := by
  show (true && (true && (true && (ltD m (.tup (p.things.map Mw.pairD)) && (ltD m (.tup (p.rows.map rowD)) && (true && true)))))) = true
  rw [lt_pairs, ltD_rows]
  rfl
def lenP (p : Pp) : Int := p.base + p.rows.length
theorem scan_rows {hi : Int} : ∀ {ds : List D} {lo : Int}, (scan (rowStep hi) lo ds).isSome = true → ∃ l : List Rw, ds = l.map rowD ∧ (∀ r ∈ l, lo ≤ r.1 ∧ r.1 ≤ hi ∧ isDeed (ddD r.2) = true)
  | [], lo, _ => ⟨[], rfl, fun _ h => nomatch h⟩
  | d :: ds, lo, h => by
    rw [scan] at h
    cases hp : rowStep hi lo d with
    | none => rw [hp] at h; cases h
    | some t =>
      rw [hp] at h
      obtain ⟨l, rfl, hl⟩ := scan_rows (ds := ds) (lo := t) h
      unfold rowStep at hp
      split at hp
      · rename_i x e
        split at hp
        · rename_i hw
          obtain ⟨w1, w2⟩ := ba hw
          obtain ⟨i, rfl, i1, i2⟩ := isWithin_inv w1
          obtain ⟨a, rfl⟩ := isDeed_inv w2
          cases hp
          refine ⟨(t, a) :: l, rfl, fun r hr => ?_⟩
          rcases List.mem_cons.mp hr with q | q
          · rw [q]; exact ⟨i1, i2, w2⟩
          · obtain ⟨h1, h2, h3⟩ := hl r q
            exact ⟨Int.le_trans i1 h1, h2, h3⟩
        · cases hp
      · cases hp
structure Valid (p : Pp) : Prop where
  t1 : 0 ≤ p.term ∧ p.term ≤ 100000
  b1 : 0 ≤ p.base ∧ p.base ≤ 100000
  a1 : 0 ≤ p.ahead ∧ p.ahead ≤ p.term
  th : ∀ e ∈ p.things, isKeyS e.1 = true ∧ 0 ≤ e.2 ∧ e.2 ≤ 9999
  asc : ascend (p.things.map Mw.pairD) = true
  rs : ∀ r ∈ p.rows, isDeed (ddD r.2) = true ∧ 1 ≤ r.1 ∧ r.1 ≤ p.term
  k1 : p.base ≤ p.kept ∧ p.kept ≤ lenP p
theorem paper_inv {d : D} (h : isPaper d = true) : ∃ p : Pp, d = ppD p ∧ Valid p := by
  unfold isPaper at h
  split at h
  · rename_i t b a th rs k
    obtain ⟨c1, h⟩ := ba h
    obtain ⟨c2, h⟩ := ba h
    obtain ⟨c3, h⟩ := ba h
    obtain ⟨c4, h⟩ := ba h
    obtain ⟨c5, h⟩ := ba h
    obtain ⟨c6, c7⟩ := ba h
    obtain ⟨ti, rfl, t1, t2⟩ := isWithin_inv c1
    obtain ⟨bi, rfl, b1, b2⟩ := isWithin_inv c2
    obtain ⟨ai, rfl, a1, a2⟩ := isWithin_inv c3
    obtain ⟨l, rfl, l1, l2⟩ := things_inv c4
    obtain ⟨ki, rfl, k1, k2⟩ := isWithin_inv c7
    cases rs with
    | tup rs =>
      obtain ⟨m, rfl, m1⟩ := scan_rows (show (scan (rowStep ti) (max ai 1) rs).isSome = true from c6)
      refine ⟨⟨ti, bi, ai, l, m, ki⟩, rfl, ⟨t1, t2⟩, ⟨b1, b2⟩, ⟨a1, a2⟩, l1, l2, fun r hr => ?_, ⟨k1, ?_⟩⟩
      · obtain ⟨h1, h2, h3⟩ := m1 r hr
        exact ⟨h3, by omega, h2⟩
      · have : lenOf (.tup (m.map rowD)) = (m.length : Int) := by simp [lenOf]
        rw [this] at k2
        exact k2
    | _ => cases c6
  · cases h
def C_look : FM := fun ds G => match ds with
  | [d] => if okP G d = true then (if isPaper d = true then .ok .non G else .exc 3 G) else .bad
  | _ => .bad
theorem paper_eq {G : Gp} {d : D} (h : okP G d = true) : C_is_paper [d] G = .ok (.bl (isPaper d)) G := if_pos h
theorem K_look {Γ : Fns} {xs : List Nat} (h14 : Kn Γ 14 1 C_is_paper) : Cleans 1 (fnRun N_look.length (eB Γ xs b_look)) C_look := by
  intro ds G hl hc hlt
  unfold C_look
  split
  · rename_i d
    split
    · rename_i ho
      split
      · rename_i hp
        refine clr_ok ⟨[], ?_⟩ (Nat.le_refl _) hc rfl
        simp [fnRun, b_look, startD, N_look, h14.1, h14.2, paper_eq ho, hp]
      · rename_i hp
        have hp' : isPaper d = false := by simpa using hp
        refine clr_exc ⟨[], ?_⟩ (Nat.le_refl _) hc
        simp [fnRun, b_look, startD, N_look, h14.1, h14.2, paper_eq ho, hp']
    · trivial
  · trivial
def C_length_of : FM := fun ds G => match ds with
  | [d] => (match pp? d with
    | some p => .ok (.int (lenP p)) G
    | none => .bad)
  | _ => .bad
theorem K_length_of {Γ : Fns} {xs : List Nat} : Cleans 1 (fnRun N_length_of.length (eB Γ xs b_length_of)) C_length_of := by
  intro ds G hl hc hlt
  unfold C_length_of
  split
  · rename_i d
    split
    · rename_i p hp
      obtain rfl := pp_inv hp
      refine clr_ok ⟨[], ?_⟩ (Nat.le_refl _) hc rfl
      simp [fnRun, b_length_of, startD, N_length_of, ppD, ix_tup, fLen, lenP]
    · trivial
  · trivial
theorem length_eq {G : Gp} (p : Pp) : C_length_of [ppD p] G = .ok (.int (lenP p)) G := by
  unfold C_length_of
  dsimp only
  rw [pp_D]
theorem look_eq {G : Gp} {d : D} (h : okP G d = true) (h2 : isPaper d = true) : C_look [d] G = .ok .non G := by
  unfold C_look
  dsimp only
  rw [if_pos h, if_pos h2]
theorem look_bad {G : Gp} {d : D} (h : okP G d = true) (h2 : isPaper d = false) : C_look [d] G = .exc 3 G := by
  unfold C_look
  dsimp only
  rw [if_pos h, if_neg (by rw [h2]; decide)]
/-- what looks first, and then is done with a paper -/
def lookC (f : Pp → Option D) : FM := fun ds G => match ds with
  | [d] => if okP G d = true then (if isPaper d = true then (match (pp? d).bind f with
    | some r => .ok r G
    | none => .bad) else .exc 3 G) else .bad
  | _ => .bad
def C_length : FM := lookC fun p => some (.int (lenP p))
theorem K_length {Γ : Fns} {xs : List Nat} (h18 : Kn Γ 18 1 C_look) (h19 : Kn Γ 19 1 C_length_of) : Cleans 1 (fnRun N_length.length (eB Γ xs b_length)) C_length := by
  intro ds G hl hc hlt
  unfold C_length lookC
  split
  · rename_i d
    split
    · rename_i ho
      split
      · rename_i hp
        obtain ⟨p, rfl, _⟩ := paper_inv hp
        rw [pp_D]
        refine clr_ok ⟨[], ?_⟩ (Nat.le_refl _) hc rfl
        simp [fnRun, b_length, startD, N_length, h18.1, h18.2, look_eq ho hp, h19.1, h19.2, length_eq]
      · rename_i hp
        have hp' : isPaper d = false := by simpa using hp
        refine clr_exc ⟨[], ?_⟩ (Nat.le_refl _) hc
        simp [fnRun, b_length, startD, N_length, h18.1, h18.2, look_bad ho hp']
    · trivial
  · trivial
def termAt (p : Pp) (n : Int) : Option Int := if n = p.base then some p.ahead else (atI p.rows (n - p.base - 1)).map (·.1)
def C_term_at : FM := fun ds G => match ds with
  | [d, .int n] => (match (pp? d).bind fun p => termAt p n with
    | some t => .ok (.int t) G
    | none => .bad)
  | _ => .bad
theorem K_term_at {Γ : Fns} {xs : List Nat} : Cleans 2 (fnRun N_term_at.length (eB Γ xs b_term_at)) C_term_at := by
  intro ds G hl hc hlt
  unfold C_term_at
  split
  · rename_i d n
    split
    · rename_i t ht
      obtain ⟨p, hp, h2⟩ := Option.bind_eq_some_iff.mp ht
      obtain rfl := pp_inv hp
      refine clr_ok ⟨[], ?_⟩ (Nat.le_refl _) hc rfl
      unfold termAt at h2
      split at h2
      · rename_i e
        cases h2
        simp [fnRun, b_term_at, startD, N_term_at, ppD, ix_tup, eq_int, e]
      · rename_i e
        obtain ⟨r, h3, rfl⟩ := Option.map_eq_some_iff.mp h2
        have h4 : atI (p.rows.map rowD) (n - p.base - 1) = some (rowD r) := by rw [atI_map, h3]; rfl
        simp [fnRun, b_term_at, startD, N_term_at, ppD, ix_tup, eq_int, e, ix_tup h4]
        simp [rowD, ix_tup]
    · trivial
  · trivial
theorem term_eq {G : Gp} {p : Pp} {n t : Int} (h : termAt p n = some t) : C_term_at [ppD p, .int n] G = .ok (.int t) G := by
  unfold C_term_at
  dsimp only
  rw [pp_D]
  simp only [Option.bind_some, h]
theorem termAt_some {p : Pp} {n : Int} (h1 : p.base ≤ n) (h2 : n ≤ lenP p) : ∃ t, termAt p n = some t := by
  unfold termAt
  split
  · exact ⟨_, rfl⟩
  · unfold lenP at h2
    obtain ⟨r, _, h⟩ := atI_mem p.rows (n - p.base - 1) (by omega) (by omega)
    exact ⟨r.1, by rw [h]; rfl⟩
def C_last_of : FM := fun ds G => match ds with
  | [d] => (match (pp? d).bind fun p => (termAt p (lenP p)).map fun t => (t, lenP p) with
    | some (t, n) => .ok (.tup [.int t, .int n]) G
    | none => .bad)
  | _ => .bad
theorem K_last_of {Γ : Fns} {xs : List Nat} (h19 : Kn Γ 19 1 C_length_of) (h21 : Kn Γ 21 2 C_term_at) : Cleans 1 (fnRun N_last_of.length (eB Γ xs b_last_of)) C_last_of := by
  intro ds G hl hc hlt
  unfold C_last_of
  split
  · rename_i d
    split
    · rename_i t n ht
      obtain ⟨p, hp, h2⟩ := Option.bind_eq_some_iff.mp ht
      obtain rfl := pp_inv hp
      obtain ⟨t', h3, h4⟩ := Option.map_eq_some_iff.mp h2
      cases h4
      refine clr_ok ⟨[], ?_⟩ (Nat.le_refl _) hc rfl
      simp [fnRun, b_last_of, startD, N_last_of, h19.1, h19.2, length_eq, h21.1, h21.2, term_eq h3]
    · trivial
  · trivial
theorem last_eq {G : Gp} {p : Pp} {t : Int} (h : termAt p (lenP p) = some t) : C_last_of [ppD p] G = .ok (.tup [.int t, .int (lenP p)]) G := by
  unfold C_last_of
  dsimp only
  rw [pp_D]
  simp only [Option.bind_some, h, Option.map_some]
def C_last : FM := lookC fun p => (termAt p (lenP p)).map fun t => .tup [.int t, .int (lenP p)]
theorem K_last {Γ : Fns} {xs : List Nat} (h18 : Kn Γ 18 1 C_look) (h22 : Kn Γ 22 1 C_last_of) : Cleans 1 (fnRun N_last.length (eB Γ xs b_last)) C_last := by
  intro ds G hl hc hlt
  unfold C_last lookC
  split
  · rename_i d
    split
    · rename_i ho
      split
      · rename_i hp
        obtain ⟨p, rfl, hv⟩ := paper_inv hp
        rw [pp_D]
        obtain ⟨t, ht⟩ := termAt_some (p := p) (n := lenP p) (Int.le_trans hv.k1.1 hv.k1.2) (Int.le_refl _)
        simp only [Option.bind_some, ht, Option.map_some]
        refine clr_ok ⟨[], ?_⟩ (Nat.le_refl _) hc rfl
        simp [fnRun, b_last, startD, N_last, h18.1, h18.2, look_eq ho hp, h22.1, h22.2, last_eq ht]
      · rename_i hp
        have hp' : isPaper d = false := by simpa using hp
        refine clr_exc ⟨[], ?_⟩ (Nat.le_refl _) hc
        simp [fnRun, b_last, startD, N_last, h18.1, h18.2, look_bad ho hp']
    · trivial
  · trivial
end Mm
namespace Mm
open PySem L2 Mw
open PyProof.Rows hiding St
theorem cut_take {ds : List D} {k : Int} (h : 0 ≤ k) : Mw.cutD ds none (some k) = ds.take k.toNat := by
  unfold Mw.cutD HT.sIx
  simp only [if_neg (show ¬ k < 0 by omega), List.drop_zero, Nat.sub_zero]
  by_cases h2 : k.toNat ≤ ds.length
  · rw [Nat.min_eq_left h2]
  · rw [Nat.min_eq_right (by omega), List.take_length, List.take_of_length_le (by omega)]
theorem cut_drop {ds : List D} {k : Int} (h : 0 ≤ k) : Mw.cutD ds (some k) none = ds.drop k.toNat := by
  unfold Mw.cutD HT.sIx
  simp only [if_neg (show ¬ k < 0 by omega)]
  by_cases h2 : k.toNat ≤ ds.length
  · rw [Nat.min_eq_left h2, List.take_of_length_le (by rw [List.length_drop]; omega)]
  · rw [Nat.min_eq_right (by omega), List.drop_length, List.drop_of_length_le (by omega)]
    simp
/-- [row[1] for row in ..] -/
theorem rows_lc {i : Nat} {it : MI0} {e : En} {G G1 : Gp} {m : List Rw} (hi : it e G = .ok ⟨m.map rowD, none⟩ G1) (hl : m.length ≤ 1000) (hlen : i < e.length) : ∃ J, mLc (.nm i) it mYes (mBin dIx (mVar i) (mC (.int 1))) [i] e G = .ok (.ref G1.length) (G1 ++ .lst ((m.map (·.2)).map ddD) :: J) := by
  obtain ⟨J, hJ⟩ := mLc_ok (t := .nm i) (it := it) (tst := mYes) (elt := mBin dIx (mVar i) (mC (.int 1))) (vs := [i]) (e := e) (G := G) (G1 := G1) (s := ⟨m.map rowD, none⟩) (fun d => match d with | .tup [_, x] => some x | _ => none) hi rfl (by rw [List.length_map]; simp; omega) (fun d hd acc J => by
    obtain ⟨r, _, rfl⟩ := List.mem_map.mp hd
    refine ⟨_, true, J, rfl, rfl, .inr ⟨rfl, ddD r.2, J, rfl, ?_⟩⟩
    have : i < (wipeE e [i]).length := by simpa [wipeE] using hlen
    simp [List.getElem?_set_self this, rowD, ix_tup])
  refine ⟨J, ?_⟩
  rw [hJ]
  congr 4
  rw [List.filterMap_map, List.map_map, ← List.filterMap_eq_map]
  rfl
def deedsUp (p : Pp) (n : Nat) : List Dd := (p.rows.take n).map (·.2)
def thingsP (p : Pp) (n : Int) : List KV := (deedsUp p (n - p.base).toNat).foldl afterL p.things
def small? (p : Pp) (n : Int) : Bool := decide (p.rows.length ≤ 1000) && fits p.things (deedsUp p (n - p.base).toNat)
def C_things_of : FM := fun ds G => match ds with
  | [d] => (match pp? d with
    | some p => if (keysL p.things).Nodup ∧ p.base ≤ p.kept ∧ small? p p.kept = true then .ok (.tup ((thingsP p p.kept).map Mw.pairD)) G else .bad
    | none => .bad)
  | _ => .bad
theorem K_things_of {Γ : Fns} {xs : List Nat} (h5 : Kn Γ 5 2 C_after_all) : Cleans 1 (fnRun N_things_of.length (eB Γ xs b_things_of)) C_things_of := by
  intro ds G hl hc hlt
  unfold C_things_of
  split
  · rename_i d
    split
    · rename_i p hp
      split
      · rename_i hcond
        obtain ⟨hn, hk, hs⟩ := hcond
        obtain ⟨s1, s2⟩ := ba hs
        obtain rfl := pp_inv hp
        refine clr_ok ?_ (Nat.le_refl _) hc (lt_pairs _)
        obtain ⟨J, hJ⟩ := rows_lc (i := 1) (it := miVal (mSl (mBin dIx (mVar 0) (mC (.int 4))) none (some (mBin dSub (mBin dIx (mVar 0) (mC (.int 5))) (mBin dIx (mVar 0) (mC (.int 1))))))) (e := [some (ppD p), none]) (G := G) (G1 := G) (m := p.rows.take (p.kept - p.base).toNat) (by
          simp [ppD, ix_tup, dIx, atI, ixN, dSl, cut_take (show 0 ≤ p.kept - p.base by omega), List.map_take]) (by have := of_decide_eq_true s1; rw [List.length_take]; omega) (by simp)
        unfold thingsP
        generalize ha : deedsUp p (p.kept - p.base).toNat = as at s2 ⊢
        rw [show (p.rows.take (p.kept - p.base).toNat).map (·.2) = as from ha] at hJ
        refine ⟨.lst (as.map ddD) :: J, ?_⟩
        have hA := all_eq (G := G ++ .lst (as.map ddD) :: J) (d := .ref G.length) (as := as) (by simp [seqOf]) hn s2
        have hi : dIx (ppD p) (.int 3) G = .ok (.tup (p.things.map Mw.pairD)) G := by simp [ppD, ix_tup]
        simp [fnRun, b_things_of, startD, N_things_of, hi]
        rw [hJ]
        simp [h5.1, h5.2, hA]
      · trivial
    · trivial
  · trivial
theorem thingsof_eq {G : Gp} {p : Pp} (hn : (keysL p.things).Nodup) (hk : p.base ≤ p.kept) (hs : small? p p.kept = true) : C_things_of [ppD p] G = .ok (.tup ((thingsP p p.kept).map Mw.pairD)) G := by
  unfold C_things_of
  dsimp only
  rw [pp_D]
  simp only
  rw [if_pos ⟨hn, hk, hs⟩]
def C_things : FM := lookC fun p => if small? p p.kept = true then some (.tup ((thingsP p p.kept).map Mw.pairD)) else none
theorem K_things {Γ : Fns} {xs : List Nat} (h18 : Kn Γ 18 1 C_look) (h24 : Kn Γ 24 1 C_things_of) : Cleans 1 (fnRun N_things.length (eB Γ xs b_things)) C_things := by
  intro ds G hl hc hlt
  unfold C_things lookC
  split
  · rename_i d
    split
    · rename_i ho
      split
      · rename_i hp
        obtain ⟨p, rfl, hv⟩ := paper_inv hp
        rw [pp_D]
        simp only [Option.bind_some]
        by_cases hs : small? p p.kept = true
        · rw [if_pos hs]
          refine clr_ok ⟨[], ?_⟩ (Nat.le_refl _) hc (lt_pairs _)
          simp [fnRun, b_things, startD, N_things, h18.1, h18.2, look_eq ho hp, h24.1, h24.2, thingsof_eq (asc_nodup hv.asc) hv.k1.1 hs]
        · rw [if_neg hs]
          trivial
      · rename_i hp
        have hp' : isPaper d = false := by simpa using hp
        refine clr_exc ⟨[], ?_⟩ (Nat.le_refl _) hc
        simp [fnRun, b_things, startD, N_things, h18.1, h18.2, look_bad ho hp']
    · trivial
  · trivial
theorem tg_nm {i : Nat} {d : D} {e : En} : (Tg.nm i).set d e = some (e.set i (some d)) := rfl
def trimP (p : Pp) (n : Int) : Pp := ⟨p.term, n, (termAt p n).getD 0, thingsP p n, p.rows.drop (n - p.base).toNat, p.kept⟩
def C_trimmed : FM := fun ds G => match ds with
  | [d, nd] => if okP G d = true ∧ okE G nd = true then (if isPaper d = true then (match pp? d with
    | some p => if isWithin nd p.base p.kept = true then (if small? p (intOf nd) = true then .ok (ppD (trimP p (intOf nd))) G else .bad) else .exc 5 G
    | none => .bad) else .exc 3 G) else .bad
  | _ => .bad
theorem K_trimmed {Γ : Fns} {xs : List Nat} (h0 : Kn Γ 0 3 C_is_within) (h5 : Kn Γ 5 2 C_after_all) (h18 : Kn Γ 18 1 C_look) (h21 : Kn Γ 21 2 C_term_at) : Cleans 2 (fnRun N_trimmed.length (eB Γ xs b_trimmed)) C_trimmed := by
  intro ds G hl hc hlt
  unfold C_trimmed
  split
  · rename_i d nd
    split
    · rename_i ho
      obtain ⟨ho, ho2⟩ := ho
      split
      · rename_i hp
        obtain ⟨p, rfl, hv⟩ := paper_inv hp
        rw [pp_D]
        simp only
        have i1 : dIx (ppD p) (.int 1) G = .ok (.int p.base) G := by simp [ppD, ix_tup]
        have i5 : dIx (ppD p) (.int 5) G = .ok (.int p.kept) G := by simp [ppD, dIx, atI, ixN]
        split
        · rename_i hw
          obtain ⟨n, rfl, n1, n2⟩ := isWithin_inv hw
          split
          · rename_i hs
            obtain ⟨s1, s2⟩ := ba hs
            simp only [intOf] at s2 ⊢
            obtain ⟨t, ht⟩ := termAt_some (p := p) (n := n) n1 (Int.le_trans n2 hv.k1.2)
            refine clr_ok ?_ (Nat.le_refl _) hc (ltD_pp _)
            obtain ⟨J, hJ⟩ := rows_lc (i := 9) (it := miVal (mSl (mVar 7) none (some (mVar 2)))) (e := [some (ppD p), some (.int n), some (.int (n - p.base)), some (.int p.term), some (.int p.base), some (.int p.ahead), some (.tup (p.things.map Mw.pairD)), some (.tup (p.rows.map rowD)), some (.int p.kept), none]) (G := G) (G1 := G) (m := p.rows.take (n - p.base).toNat) (by
              simp [dSl, cut_take (show 0 ≤ n - p.base by omega), List.map_take]) (by have := of_decide_eq_true s1; rw [List.length_take]; omega) (by simp)
            unfold trimP thingsP
            generalize ha : deedsUp p (n - p.base).toNat = as at s2 ⊢
            rw [show (p.rows.take (n - p.base).toNat).map (·.2) = as from ha] at hJ
            refine ⟨.lst (as.map ddD) :: J, ?_⟩
            have hA := all_eq (G := G ++ .lst (as.map ddD) :: J) (d := .ref G.length) (as := as) (by simp [seqOf]) (asc_nodup hv.asc) s2
            have hset : (Tg.tp [3, 4, 5, 6, 7, 8]).set (ppD p) [some (ppD p), some (.int n), none, none, none, none, none, none, none, none] = some [some (ppD p), some (.int n), none, some (.int p.term), some (.int p.base), some (.int p.ahead), some (.tup (p.things.map Mw.pairD)), some (.tup (p.rows.map rowD)), some (.int p.kept), none] := rfl
            have hd := cut_drop (ds := p.rows.map rowD) (show 0 ≤ n - p.base by omega)
            simp [-Tg.set, tg_nm, fnRun, b_trimmed, startD, N_trimmed, h18.1, h18.2, look_eq ho hp, i1, i5, h0.1, h0.2, within_eq ho2, hw, hset, h21.1, h21.2, term_eq ht]
            rw [hJ]
            simp [h5.1, h5.2, hA, dSl, hd, ht, ppD, List.map_drop]
          · trivial
        · rename_i hw
          have hw' : isWithin nd p.base p.kept = false := by simpa using hw
          refine clr_exc ⟨[], ?_⟩ (Nat.le_refl _) hc
          simp [fnRun, b_trimmed, startD, N_trimmed, h18.1, h18.2, look_eq ho hp, i1, i5, h0.1, h0.2, within_eq ho2, hw']
      · rename_i hp
        have hp' : isPaper d = false := by simpa using hp
        refine clr_exc ⟨[], ?_⟩ (Nat.le_refl _) hc
        simp [fnRun, b_trimmed, startD, N_trimmed, h18.1, h18.2, look_bad ho hp']
    · trivial
  · trivial
end Mm
namespace Mm
open PySem L2 Mw
open PyProof.Rows hiding St
def plainD : Nat → D → Bool
  | _, .non => true
  | _, .int _ => true
  | _, .str x => PyData.strOk x
  | n + 1, .tup ds => ds.all (plainD n)
  | _, _ => false
def toPy : Nat → D → PyData
  | _, .int i => .int i
  | _, .str x => .str x
  | n + 1, .tup ds => .tuple (ds.map (toPy n))
  | _, _ => .none
theorem py_plain {G : Gp} : ∀ (n : Nat) (d : D), plainD n d = true → py G n d = some (toPy n d)
  | n, .non, _ => by cases n <;> rfl
  | n, .int i, _ => by cases n <;> rfl
  | n, .str x, h => by
    have h' : PyData.strOk x = true := by cases n <;> exact h
    cases n <;> simp [py, toPy, h']
  | n + 1, .tup ds, h => by
    have h' : ds.all (plainD n) = true := h
    show (ds.mapM (py G n)).map PyData.tuple = some (.tuple (ds.map (toPy n)))
    rw [mapM_some (g := toPy n) fun d hd => py_plain n d (List.all_eq_true.mp h' d hd)]
    rfl
  | 0, .tup ds, h => by cases h
  | 0, .bl _, h => by cases h
  | n + 1, .bl _, h => by cases h
  | 0, .ref _, h => by cases h
  | n + 1, .ref _, h => by cases h
  | 0, .scr _, h => by cases h
  | 0, .exn _ _, h => by cases h
  | n + 1, .scr _, h => by cases h
  | n + 1, .exn _ _, h => by cases h
theorem eqv_plain : ∀ (n : Nat) (a b : D), plainD n a = true → plainD n b = true → PyData.eqv (toPy n a) (toPy n b) = D.beq a b := by
  intro n
  induction n with
  | zero =>
    intro a b ha hb
    cases a <;> first | (cases ha; done) | skip
    all_goals (cases b <;> first | (cases hb; done) | skip)
    all_goals simp [toPy, PyData.eqv, D.beq]
    all_goals (rw [Bool.eq_iff_iff]; simp)
  | succ n ih =>
    intro a b ha hb
    have all : ∀ (xs ys : List D), xs.all (plainD n) = true → ys.all (plainD n) = true → PyData.eqvAll (xs.map (toPy n)) (ys.map (toPy n)) = beqs xs ys := by
      intro xs
      induction xs with
      | nil => intro ys _ _; cases ys <;> simp [PyData.eqvAll, beqs]
      | cons x xs ihx =>
        intro ys hx hy
        cases ys with
        | nil => simp [PyData.eqvAll, beqs]
        | cons y ys =>
          rw [List.all_cons] at hx hy
          obtain ⟨x1, x2⟩ := ba hx
          obtain ⟨y1, y2⟩ := ba hy
          simp only [List.map_cons, PyData.eqvAll, beqs]
          rw [ih x y x1 y1, ihx ys x2 y2]
    cases a <;> first | (cases ha; done) | skip
    all_goals (cases b <;> first | (cases hb; done) | skip)
    all_goals first
      | exact all _ _ ha hb
      | (simp [toPy, PyData.eqv, D.beq]; done)
      | (simp [toPy, PyData.eqv, D.beq]; rw [Bool.eq_iff_iff]; simp; done)
      | skip
theorem eq_plain {G : Gp} {a b : D} (ha : plainD 20 a = true) (hb : plainD 20 b = true) : dEq a b G = .ok (D.beq a b) G := by
  unfold dEq
  rw [py_plain 20 a ha, py_plain 20 b hb]
  simp only [eqv_plain 20 a b ha hb]
end Mm
namespace Mm
open PySem L2 Mw
open PyProof.Rows hiding St
def upN (one : Int) : Int := [0, 0, 0, 1, 2].getD (one / 97 % 5).toNat 0
def histSt (s : Int) : Nat → Int × List Rw
  | 0 => (1, [])
  | k + 1 => ((histSt s k).1 + upN (seedN s k), (histSt s k).2 ++ [((histSt s k).1 + upN (seedN s k), deedN (seedN (seedN s k) 1))])
def hist (s : Int) (n : Nat) : List Rw := (histSt s n).2
def histN (s m : Int) : Nat := (s / 7 % (m + 1)).toNat
theorem hist_len (s : Int) : ∀ n, (histSt s n).2.length = n
  | 0 => rfl
  | n + 1 => by
    rw [histSt, List.length_append, hist_len s n]
    rfl
def C__law_history : FM := fun ds G => match ds with
  | [.int s, .int m] => if 0 ≤ m ∧ m ≤ 1000 then .ok (.tup ((hist s (histN s m)).map rowD)) G else .bad
  | _ => .bad
theorem pick_eq {G : Gp} {s k : Int} (h : 0 < k) : C__law_pick [.int s, .int k] G = .ok (.int (s / 97 % k)) G := if_pos h
theorem seed_eq {G : Gp} {s k : Int} : C__law_seed [.int s, .int k] G = .ok (.int (seedN s k)) G := rfl
theorem ldeed_eq {G : Gp} {s : Int} : C__law_deed [.int s] G = .ok (ddD (deedN s)) G := rfl
theorem range_drop {n k : Nat} {d : D} {rest : List D} (h : d :: rest = (rangeD 0 n).drop k) : k < n ∧ d = .int (k : Int) ∧ rest = (rangeD 0 n).drop (k + 1) := by
  have hl : (rangeD 0 n).length = n := by simp [rangeD]
  by_cases hk : k < n
  · rw [List.drop_eq_getElem_cons (by omega)] at h
    obtain ⟨h1, h2⟩ := List.cons.inj h
    refine ⟨hk, ?_, h2⟩
    rw [h1]
    simp [rangeD]
  · rw [List.drop_of_length_le (by omega)] at h
    cases h
theorem K__law_history {Γ : Fns} {xs : List Nat} (h8 : Kn Γ 8 2 C__law_seed) (h9 : Kn Γ 9 2 C__law_pick) (h10 : Kn Γ 10 1 C__law_deed) : Cleans 2 (fnRun N__law_history.length (eB Γ xs b__law_history)) C__law_history := by
  intro ds G hl hc hlt
  unfold C__law_history
  split
  · rename_i s m
    split
    · rename_i hm
      have hN : histN s m < 1001 := by unfold histN; have := Int.emod_lt_of_pos (s / 7) (show 0 < m + 1 by omega); have := Int.emod_nonneg (s / 7) (show m + 1 ≠ 0 by omega); omega
      have eN : s / 7 % (m + 1) = (histN s m : Int) := by unfold histN; have := Int.emod_nonneg (s / 7) (show m + 1 ≠ 0 by omega); omega
      refine clr_ok ?_ (Nat.le_refl _) hc (ltD_rows _)
      have hm1 : 0 < m + 1 := by omega
      simp [fnRun, b__law_history, startD, N__law_history]
      generalize hN' : histN s m = n at hN eN ⊢
      generalize hf : mFor (.nm 4) _ _ _ _ = r
      have hr : ∃ J e, r = .nx e (G ++ .lst ((hist s n).map rowD) :: J) ∧ e[2]? = some (some (.ref G.length)) := by
        rw [← hf]
        obtain ⟨a, h1, h2⟩ := mFor_rel (α := Nat × Gp × Option D) (i := 4) (it := miRange1 (maCons (mBin dMod (mBin dDiv (mVar 0) (mC (.int 7))) (mBin dAdd (mVar 1) (mC (.int 1)))) maNil)) (s := ⟨rangeD 0 n, none⟩) (e := [some (.int s), some (.int m), some (.ref G.length), some (.int 1), none, none]) (G := G ++ [.lst []])
          (B := mSeq (mAsg (.nm 5) (mCallF (Γ.ar 8) (Γ.F 8) (maCons (mVar 0) (maCons (mVar 4) maNil)))) (mSeq (mAsg (.nm 3) (mBin dAdd (mVar 3) (mBin dIx (mLst (maCons (mC (.int 0)) (maCons (mC (.int 0)) (maCons (mC (.int 0)) (maCons (mC (.int 1)) (maCons (mC (.int 2)) maNil)))))) (mCallF (Γ.ar 9) (Γ.F 9) (maCons (mVar 5) (maCons (mC (.int 5)) maNil)))))) (mSeq (mDrop (mApp (mVar 2) (mTup (maCons (mVar 3) (maCons (mCallF (Γ.ar 10) (Γ.F 10) (maCons (mCallF (Γ.ar 8) (Γ.F 8) (maCons (mVar 5) (maCons (mC (.int 1)) maNil))) maNil)) maNil))))) mNext)))
          (E := fun a w => [some (.int s), some (.int m), some (.ref G.length), some (.int (histSt s a.1).1), w, a.2.2]) (Hh := fun a => G ++ .lst ((histSt s a.1).2.map rowD) :: a.2.1) (Q := fun a rest => a.1 ≤ n ∧ rest = (rangeD 0 n).drop a.1) (0, [], none) none rfl (by
            have : (-100000 < (n : Int) ∧ (n : Int) < 100000) := by omega
            simp [dMod, dDiv, hm1, eN, this, histSt]) ⟨Nat.zero_le _, rfl⟩ (fun _ _ _ => rfl) (fun _ _ _ => rfl) (fun a d rest hq => by
            obtain ⟨k, J, o⟩ := a
            obtain ⟨hk, rfl, h2⟩ := range_drop hq.2
            have k1 : atI [D.int 0, .int 0, .int 0, .int 1, .int 2] (seedN s k / 97 % 5) = some (.int (upN (seedN s k))) := by
              show atI (List.map D.int [0, 0, 0, 1, 2]) _ = _
              rw [atI_map, atI_lt _ _ 0 (by omega) (by show _ < (5 : Int); omega)]
              rfl
            refine ⟨(k + 1, J ++ [.lst [.int 0, .int 0, .int 0, .int 1, .int 2]], some (.int (seedN s k))), ?_, hk, h2⟩
            have hlen : (histSt s k).2.length < 100000 := by rw [hist_len]; omega
            simp [h8.1, h8.2, seed_eq, h9.1, h9.2, pick_eq, h10.1, h10.2, ldeed_eq, dIx, k1, isL, dApp, hlen, histSt, rowD])
        obtain ⟨k, J, o⟩ := a
        have hkn : k = n := by
          obtain ⟨q1, q2⟩ := h2
          have hl : (rangeD 0 n).length = n := by simp [rangeD]
          have := congrArg List.length q2
          rw [List.length_drop, hl] at this
          simp at this
          omega
        subst hkn
        exact ⟨J, _, h1, rfl⟩
      obtain ⟨J, e, rfl, he⟩ := hr
      refine ⟨.lst ((hist s n).map rowD) :: J, ?_⟩
      simp [he, fTuple]
    · trivial
  · trivial
end Mm
namespace Mm
open PySem L2 Mw
open PyProof.Rows hiding St
def topOf (m : List Rw) : Int := (m.getLast?.map (·.1)).getD 0
def aheadOf (m : List Rw) (b : Int) : Int := if 0 < b then ((m[(b - 1).toNat]?).map (·.1)).getD 0 else 0
def thingsOf (m : List Rw) (n : Nat) : List KV := sortKV (((m.take n).map (·.2)).foldl app [])
def lawPaper (m : List Rw) (b k more : Int) : Pp := ⟨topOf m + more, b, aheadOf m b, thingsOf m b.toNat, m.drop b.toNat, k⟩
def okDk : Dd → Bool
  | .non => true
  | .put k _ => PyData.strOk k
  | .add k _ => PyData.strOk k
  | .drop k => PyData.strOk k
theorem plain_dd {a : Dd} (h : okDk a = true) (n : Nat) : plainD (n + 1) (ddD a) = true := by
  have o1 : PyData.strOk "none" = true := by decide +kernel
  have o2 : PyData.strOk "drop" = true := by decide +kernel
  have o3 : PyData.strOk "put" = true := by decide +kernel
  have o4 : PyData.strOk "add" = true := by decide +kernel
  have e : ∀ k i, plainD k (.int i) = true := fun k i => by cases k <;> rfl
  have e2 : ∀ k x, plainD k (.str x) = PyData.strOk x := fun k i => by cases k <;> rfl
  cases a with
  | non => show (plainD n (.str "none") && true) = true; rw [e2, o1]; rfl
  | put k v => show (plainD n (.str "put") && (plainD n (.str k) && (plainD n (.int v) && true))) = true; rw [e2, e2, e, o3, show PyData.strOk k = true from h]; rfl
  | add k v => show (plainD n (.str "add") && (plainD n (.str k) && (plainD n (.int v) && true))) = true; rw [e2, e2, e, o4, show PyData.strOk k = true from h]; rfl
  | drop k => show (plainD n (.str "drop") && (plainD n (.str k) && true)) = true; rw [e2, e2, o2, show PyData.strOk k = true from h]; rfl
theorem plain_int (n : Nat) (i : Int) : plainD n (.int i) = true := by cases n <;> rfl
theorem plain_str (n : Nat) (x : Str) : plainD n (.str x) = PyData.strOk x := by cases n <;> rfl
theorem plain_rows {m : List Rw} (h : m.all (fun r => okDk r.2) = true) (n : Nat) : plainD (n + 3) (.tup (m.map rowD)) = true := by
  show (m.map rowD).all (plainD (n + 2)) = true
  rw [List.all_eq_true]
  intro d hd
  obtain ⟨r, hr, rfl⟩ := List.mem_map.mp hd
  show (plainD (n + 1) (.int r.1) && (plainD (n + 1) (ddD r.2) && true)) = true
  rw [plain_int, plain_dd (List.all_eq_true.mp h r hr)]
  rfl
theorem beq_nil {α : Type} (m : List α) (f : α → D) : D.beq (.tup (m.map f)) (.tup []) = m.isEmpty := by
  cases m <;> simp [D.beq, beqs]
theorem atI_last {α : Type} {l : List α} (h : l ≠ []) : atI l (-1) = l.getLast? := by
  have hl : 0 < l.length := List.length_pos_iff.mpr h
  unfold atI ixN
  rw [if_neg (by omega), if_pos (by omega)]
  show l[((-1 : Int) + l.length).toNat]? = _
  rw [List.getLast?_eq_getElem?]
  congr 1
  omega
def C__law_paper : FM := fun ds G => match ds with
  | [.tup rs, .int b, .int k, .int more] => (match rows? rs with
    | some m => if 0 ≤ b ∧ b ≤ m.length ∧ m.length ≤ 900 ∧ m.all (fun r => okDk r.2) = true then .ok (ppD (lawPaper m b k more)) G else .bad
    | none => .bad)
  | _ => .bad
theorem K__law_paper {Γ : Fns} {xs : List Nat} (h11 : Kn Γ 11 2 C__law_after) : Cleans 4 (fnRun N__law_paper.length (eB Γ xs b__law_paper)) C__law_paper := by
  intro ds G hl hc hlt
  unfold C__law_paper
  split
  · rename_i rs b k more
    split
    · rename_i m hm
      split
      · rename_i hcond
        obtain ⟨c1, c2, c3, c4⟩ := hcond
        obtain rfl := rows_inv hm
        refine clr_ok ?_ (Nat.le_refl _) hc (ltD_pp _)
        have p1 := plain_rows c4 17
        have p2 : plainD 20 (.tup []) = true := rfl
        have hne := eq_plain (G := G) p1 p2
        rw [beq_nil] at hne
        have htop : (mIf (mCmpB (notR dEq) (mVar 0) (mTup maNil)) (mBin dIx (mBin dIx (mVar 0) (mNeg (mC (.int 1)))) (mC (.int 0))) (mC (.int 0))) [some (.tup (m.map rowD)), some (.int b), some (.int k), some (.int more), none, none, none, none] G = .ok (.int (topOf m)) G := by
          cases m with
          | nil => simp at hne; simp [hne, topOf]
          | cons r m =>
            have hl : atI ((r :: m).map rowD) (-1) = ((r :: m).getLast?).map rowD := by rw [atI_map, atI_last (by simp)]
            obtain ⟨z, hz⟩ : ∃ z, (r :: m).getLast? = some z := ⟨_, List.getLast?_eq_some_getLast (by simp)⟩
            rw [hz] at hl
            simp only [List.isEmpty_cons] at hne
            rw [List.map_cons] at hne hl ⊢
            simp [hne, ix_tup hl, topOf, hz]
            simp [rowD, ix_tup]
        have hahd : ∀ (w : Option D), (mIf (mCmpB (fun x y G => dLt y x G) (mVar 1) (mC (.int 0))) (mBin dIx (mBin dIx (mVar 0) (mBin dSub (mVar 1) (mC (.int 1)))) (mC (.int 0))) (mC (.int 0))) [some (.tup (m.map rowD)), some (.int b), some (.int k), some (.int more), w, none, none, none] G = .ok (.int (aheadOf m b)) G := fun w => by
          by_cases hb : 0 < b
          · have hlt : (b - 1).toNat < m.length := by omega
            have hl : atI (m.map rowD) (b - 1) = some (rowD m[(b - 1).toNat]) := by
              have := atI_nat (l := m.map rowD) (b - 1).toNat (by simpa using hlt)
              rw [show (((b - 1).toNat : Nat) : Int) = b - 1 by omega] at this
              rw [this, List.getElem?_map, List.getElem?_eq_getElem hlt]
              rfl
            simp [hb, ix_tup hl, aheadOf]
            simp [rowD, ix_tup]
            rw [List.getElem?_eq_getElem (show b.toNat - 1 < m.length by omega)]
            rfl
          · simp [hb, aheadOf]
        obtain ⟨J, hJ⟩ := rows_lc (i := 7) (it := miVal (mSl (mVar 0) none (some (mVar 1)))) (e := [some (.tup (m.map rowD)), some (.int b), some (.int k), some (.int more), some (.int (topOf m)), some (.int (aheadOf m b)), none, none]) (G := G) (G1 := G) (m := m.take b.toNat) (by
          simp [dSl, cut_take c1, List.map_take]) (by rw [List.length_take]; omega) (by simp)
        generalize ha : (m.take b.toNat).map (·.2) = as at hJ
        refine ⟨.lst (as.map ddD) :: J, ?_⟩
        have hA := laft_eq (G := G ++ .lst (as.map ddD) :: J) (l := []) (d := .ref G.length) (as := as) (by simp [seqOf]) List.nodup_nil (by rw [← ha, List.length_map, List.length_take]; simp; omega)
        simp only [List.map_nil] at hA
        have hd := cut_drop (ds := m.map rowD) c1
        simp only [fnRun, b__law_paper, startD, N__law_paper, eB, eS]
        simp only [eP, mSeq, mAsg, List.length_cons, List.length_nil, List.map_cons, List.map_nil, Nat.reduceAdd, Nat.reduceSub, List.replicate_succ, List.replicate_zero, List.cons_append, List.nil_append, Cop.f, Bop.f, pl, eA]
        rw [htop]
        simp only [Tg.set, List.set_cons_succ, List.set_cons_zero]
        rw [hahd]
        simp
        rw [hJ]
        simp [h11.1, h11.2, hA, dSl, hd, ppD, lawPaper, List.map_drop, thingsOf, ha]
      · trivial
    · trivial
  · trivial
def drawnKept (s : Int) (n : Nat) : Int := s / 11 % (n + 1)
def drawnBase (s : Int) (n : Nat) : Int := [0, drawnKept s n, s / 13 % (drawnKept s n + 1)].getD (s / 17 % 3).toNat 0
def drawnRows (s m : Int) : List Rw := hist s (histN s m)
def drawnPaper (s m : Int) : Pp := lawPaper (drawnRows s m) (drawnBase s (drawnRows s m).length) (drawnKept s (drawnRows s m).length) (s / 19 % 3)
theorem histSt_ok (s : Int) : ∀ n, (histSt s n).2.all (fun r => okDk r.2) = true
  | 0 => rfl
  | n + 1 => by
    rw [histSt, List.all_append, histSt_ok s n]
    have : okDk (deedN (seedN (seedN s n) 1)) = true := by
      have h := deedN_good (seedN (seedN s n) 1)
      cases hd : deedN (seedN (seedN s n) 1) with
      | non => rfl
      | put k v => rw [hd] at h; exact (keysC_key h.1).2.1
      | add k v => rw [hd] at h; exact (keysC_key h.1).2.1
      | drop k => rw [hd] at h; exact (keysC_key h).2.1
    simp [this]
theorem drawn_ok (s m : Int) (hm : 0 ≤ m ∧ m ≤ 800) : (drawnRows s m).length ≤ 800 ∧ 0 ≤ drawnKept s (drawnRows s m).length ∧ drawnKept s (drawnRows s m).length ≤ (drawnRows s m).length ∧ 0 ≤ drawnBase s (drawnRows s m).length ∧ drawnBase s (drawnRows s m).length ≤ drawnKept s (drawnRows s m).length := by
  have h1 : (drawnRows s m).length ≤ 800 := by
    unfold drawnRows hist
    rw [hist_len]
    unfold histN
    have := Int.emod_lt_of_pos (s / 7) (show 0 < m + 1 by omega)
    have := Int.emod_nonneg (s / 7) (show m + 1 ≠ 0 by omega)
    omega
  generalize (drawnRows s m).length = n at h1
  have h2 : 0 ≤ drawnKept s n ∧ drawnKept s n ≤ n := by
    unfold drawnKept
    have := Int.emod_lt_of_pos (s / 11) (show (0 : Int) < n + 1 by omega)
    have := Int.emod_nonneg (s / 11) (show (n : Int) + 1 ≠ 0 by omega)
    omega
  refine ⟨h1, h2.1, h2.2, ?_⟩
  have h3 : drawnBase s n ∈ [0, drawnKept s n, s / 13 % (drawnKept s n + 1)] := getD_mem (by show (s / 17 % 3).toNat < 3; omega)
  have := Int.emod_lt_of_pos (s / 13) (show (0 : Int) < drawnKept s n + 1 by omega)
  have := Int.emod_nonneg (s / 13) (show drawnKept s n + 1 ≠ 0 by omega)
  simp only [List.mem_cons, List.not_mem_nil, or_false] at h3
  omega
def C__law_drawn_paper : FM := fun ds G => match ds with
  | [.int s, .int m] => if 0 ≤ m ∧ m ≤ 800 then .ok (.tup [ppD (drawnPaper s m), .tup ((drawnRows s m).map rowD)]) G else .bad
  | _ => .bad
theorem lpaper_eq {G : Gp} {m : List Rw} {b k more : Int} (h1 : 0 ≤ b) (h2 : b ≤ m.length) (h3 : m.length ≤ 900) (h4 : m.all (fun r => okDk r.2) = true) : C__law_paper [.tup (m.map rowD), .int b, .int k, .int more] G = .ok (ppD (lawPaper m b k more)) G := by
  unfold C__law_paper
  dsimp only
  rw [rows_D]
  simp only
  rw [if_pos ⟨h1, h2, h3, h4⟩]
theorem K__law_drawn_paper {Γ : Fns} {xs : List Nat} (h15 : Kn Γ 15 2 C__law_history) (h16 : Kn Γ 16 4 C__law_paper) : Cleans 2 (fnRun N__law_drawn_paper.length (eB Γ xs b__law_drawn_paper)) C__law_drawn_paper := by
  intro ds G hl hc hlt
  unfold C__law_drawn_paper
  split
  · rename_i s m
    split
    · rename_i hm
      obtain ⟨d1, d2, d3, d4, d5⟩ := drawn_ok s m hm
      have hlt : ltD G.length (.tup [ppD (drawnPaper s m), .tup ((drawnRows s m).map rowD)]) = true := by
        show (ltD _ (ppD _) && (ltD _ (.tup _) && true)) = true
        rw [ltD_pp, ltD_rows]
        rfl
      refine clr_ok ?_ (Nat.le_refl _) hc hlt
      have e15 : C__law_history [.int s, .int m] G = .ok (.tup ((drawnRows s m).map rowD)) G := if_pos ⟨hm.1, by omega⟩
      unfold drawnPaper
      have hall : (drawnRows s m).all (fun r => okDk r.2) = true := histSt_ok s _
      generalize drawnRows s m = R at d1 d2 d3 d4 d5 e15 hall ⊢
      have k1 : atI [D.int 0, .int (drawnKept s R.length), .int (s / 13 % (drawnKept s R.length + 1))] (s / 17 % 3) = some (.int (drawnBase s R.length)) := by
        show atI (List.map D.int [0, drawnKept s R.length, s / 13 % (drawnKept s R.length + 1)]) _ = _
        rw [atI_map, atI_lt _ _ 0 (by omega) (by show _ < (3 : Int); omega)]
        rfl
      refine ⟨[.lst [D.int 0, .int (drawnKept s R.length), .int (s / 13 % (drawnKept s R.length + 1))]], ?_⟩
      have e16 := lpaper_eq (G := G ++ [.lst [D.int 0, .int (drawnKept s R.length), .int (s / 13 % (drawnKept s R.length + 1))]]) (m := R) (b := drawnBase s R.length) (k := drawnKept s R.length) (more := s / 19 % 3) d4 (by omega) (by omega) hall
      have q1 : (0 : Int) < R.length + 1 := by omega
      have q2 : 0 < drawnKept s R.length + 1 := by omega
      have q3 : s / 11 % ((R.length : Int) + 1) = drawnKept s R.length := rfl
      simp [fnRun, b__law_drawn_paper, startD, N__law_drawn_paper, h15.1, h15.2, e15, fLen, dDiv, dMod, q1, q3, q2, dIx, k1, h16.1, h16.2, e16]
    · trivial
  · trivial
end Mm
namespace Mm
open PySem L2 Mw
open PyProof.Rows hiding St
structure HistOk (R : List Rw) : Prop where
  pw : R.Pairwise (fun a b => a.1 ≤ b.1)
  ge : ∀ r ∈ R, 1 ≤ r.1
  le : ∀ r ∈ R, r.1 ≤ 90000
  good : ∀ r ∈ R, GoodD r.2
theorem upN_ok (x : Int) : 0 ≤ upN x ∧ upN x ≤ 2 := by
  have h : upN x ∈ [0, 0, 0, 1, 2] := getD_mem (by show (x / 97 % 5).toNat < 5; omega)
  simp only [List.mem_cons, List.not_mem_nil, or_false] at h
  omega
theorem histSt_bd (s : Int) : ∀ n, 1 ≤ (histSt s n).1 ∧ (histSt s n).1 ≤ 1 + 2 * (n : Int) ∧ (∀ r ∈ (histSt s n).2, 1 ≤ r.1 ∧ r.1 ≤ (histSt s n).1) ∧ (histSt s n).2.Pairwise (fun a b => a.1 ≤ b.1) ∧ ∀ r ∈ (histSt s n).2, GoodD r.2
  | 0 => ⟨(by show (1 : Int) ≤ 1; decide), (by show (1 : Int) ≤ 1 + 2 * 0; decide), (fun _ h => nomatch h), .nil, (fun _ h => nomatch h)⟩
  | n + 1 => by
    obtain ⟨h1, h2, h3, h4, h5⟩ := histSt_bd s n
    have hu := upN_ok (seedN s n)
    rw [histSt]
    refine ⟨by dsimp only; omega, by dsimp only; omega, fun r hr => ?_, ?_, fun r hr => ?_⟩
    · rcases List.mem_append.mp hr with q | q
      · have := h3 r q
        exact ⟨this.1, by dsimp only; omega⟩
      · rw [List.mem_singleton.mp q]
        exact ⟨by dsimp only; omega, Int.le_refl _⟩
    · rw [List.pairwise_append]
      refine ⟨h4, List.pairwise_singleton _ _, fun a ha b hb => ?_⟩
      rw [List.mem_singleton.mp hb]
      have := h3 a ha
      dsimp only
      omega
    · rcases List.mem_append.mp hr with q | q
      · exact h5 r q
      · rw [List.mem_singleton.mp q]
        exact deedN_good _
theorem hist_ok (s : Int) (n : Nat) (hn : n ≤ 1000) : HistOk (hist s n) := by
  obtain ⟨h1, h2, h3, h4, h5⟩ := histSt_bd s n
  exact ⟨h4, fun r hr => (h3 r hr).1, fun r hr => by have := (h3 r hr).2; omega, h5⟩
theorem HistOk.drop {R : List Rw} (h : HistOk R) (n : Nat) : HistOk (R.drop n) :=
  ⟨h.pw.sublist (List.drop_sublist n R), fun r hr => h.ge r (List.mem_of_mem_drop hr), fun r hr => h.le r (List.mem_of_mem_drop hr), fun r hr => h.good r (List.mem_of_mem_drop hr)⟩
theorem HistOk.keys {R : List Rw} (h : HistOk R) : R.all (fun r => okDk r.2) = true := by
  rw [List.all_eq_true]
  intro r hr
  have hg := h.good r hr
  cases hd : r.2 with
  | non => rfl
  | put k v => rw [hd] at hg; exact (keysC_key hg.1).2.1
  | add k v => rw [hd] at hg; exact (keysC_key hg.1).2.1
  | drop k => rw [hd] at hg; exact (keysC_key hg).2.1
theorem deeds_good {R : List Rw} (h : HistOk R) {n : Nat} : ∀ d ∈ (R.take n).map (·.2), GoodD d := fun d hd => by
  obtain ⟨r, hr, rfl⟩ := List.mem_map.mp hd
  exact h.good r (List.mem_of_mem_take hr)
theorem thingsOf_good {R : List Rw} (h : HistOk R) (n : Nat) : GoodL (thingsOf R n) := (goodL_nil.fold (deeds_good h)).sort
theorem thingsOf_sorted (R : List Rw) (n : Nat) : (thingsOf R n).Pairwise (fun a b => leKV a b = true) := sortKV_pw _
theorem nodup_len {α : Type} [DecidableEq α] : ∀ {xs ys : List α}, xs.Nodup → (∀ x ∈ xs, x ∈ ys) → xs.length ≤ ys.length
  | [], _, _, _ => Nat.zero_le _
  | x :: xs, ys, hn, h => by
    obtain ⟨h1, h2⟩ := List.nodup_cons.mp hn
    have hx : x ∈ ys := h x List.mem_cons_self
    have := nodup_len (ys := ys.erase x) h2 fun z hz => by
      have hne : z ≠ x := fun e => by rw [e] at hz; exact h1 hz
      exact (List.mem_erase_of_ne hne).mpr (h z (List.mem_cons_of_mem _ hz))
    rw [List.length_erase_of_mem hx] at this
    have := List.length_pos_of_mem hx
    rw [List.length_cons]
    omega
theorem good_len {l : List KV} (h : GoodL l) : l.length ≤ 28 := by
  have h1 : (keysL l).length ≤ keysG.length := nodup_len h.nd fun x hx => by
    obtain ⟨e, he, rfl⟩ := List.mem_map.mp hx
    exact (h.all e he).1
  simpa [keysG] using h1
theorem afterL_good {l : List KV} (h : GoodL l) {d : Dd} (hd : GoodD d) : GoodL (afterL l d) := (h.app hd).sort
theorem fits_good : ∀ {as : List Dd} {l : List KV}, GoodL l → (∀ d ∈ as, GoodD d) → fits l as = true
  | [], _, _, _ => rfl
  | a :: as, l, h, hd => by
    have := good_len h
    rw [fits, decide_eq_true (show l.length < 60 by omega), fits_good (afterL_good h (hd a List.mem_cons_self)) fun z hz => hd z (List.mem_cons_of_mem _ hz)]
    rfl
/-- from things to things -/
theorem things_on {R : List Rw} (h : HistOk R) {a b : Nat} (hab : a ≤ b) : (((R.drop a).take (b - a)).map (·.2)).foldl afterL (thingsOf R a) = thingsOf R b := by
  have hg : ∀ d ∈ ((R.drop a).take (b - a)).map (·.2), GoodD d := fun d hd => by
    obtain ⟨r, hr, rfl⟩ := List.mem_map.mp hd
    exact h.good r (List.mem_of_mem_drop (List.mem_of_mem_take hr))
  rw [fold_same (thingsOf_good h a) (thingsOf_sorted R a) hg]
  unfold thingsOf
  refine kv_unique ?_ (goodL_nil.fold (deeds_good h)).nd (sortKV_pw _)
  refine (sortKV_perm _).trans ?_
  have e : R.take b = R.take a ++ (R.drop a).take (b - a) := by
    rw [← List.take_append_drop a (R.take b), List.take_take, Nat.min_eq_left hab, List.drop_take]
  rw [e, List.map_append, List.foldl_append]
  have fp : ∀ (ds : List Dd) (l m : List KV), l.Perm m → (keysL l).Nodup → (ds.foldl app l).Perm (ds.foldl app m) := by
    intro ds
    induction ds with
    | nil => intro l m hp _; exact hp
    | cons d ds ih => intro l m hp hn; exact ih _ _ (app_perm hp hn d) (app_nodup hn d)
  exact fp _ _ _ (sortKV_perm _) (sortKV_nodup (goodL_nil.fold (deeds_good h)).nd)
section
variable {R : List Rw} {b k more : Int}
theorem lp_len (h1 : 0 ≤ b) (h2 : b ≤ R.length) : lenP (lawPaper R b k more) = R.length := by
  show b + ((R.drop b.toNat).length : Int) = _
  rw [List.length_drop]
  omega
theorem lp_things (h : HistOk R) (h1 : 0 ≤ b) {n : Int} (hn : b ≤ n) : thingsP (lawPaper R b k more) n = thingsOf R n.toNat := by
  show (((R.drop b.toNat).take (n - b).toNat).map (·.2)).foldl afterL (thingsOf R b.toNat) = _
  rw [show (n - b).toNat = n.toNat - b.toNat by omega]
  exact things_on h (by omega)
theorem lp_small (h : HistOk R) (hR : R.length ≤ 900) {n : Int} : small? (lawPaper R b k more) n = true := by
  show (decide ((R.drop b.toNat).length ≤ 1000) && fits (thingsOf R b.toNat) (((R.drop b.toNat).take (n - b).toNat).map (·.2))) = true
  rw [decide_eq_true (show (R.drop b.toNat).length ≤ 1000 by rw [List.length_drop]; omega), fits_good (thingsOf_good h _) (deeds_good (h.drop _))]
  rfl
theorem lp_term (h1 : 0 ≤ b) {n : Int} (hn : b ≤ n) (h2 : n ≤ R.length) : termAt (lawPaper R b k more) n = some (aheadOf R n) := by
  unfold termAt
  show (if n = b then some (aheadOf R b) else (atI (R.drop b.toNat) (n - b - 1)).map (·.1)) = _
  split
  · rename_i e; rw [e]
  · have hl : (n - b - 1).toNat < (R.drop b.toNat).length := by rw [List.length_drop]; omega
    have := atI_nat (n - b - 1).toNat hl
    rw [show (((n - b - 1).toNat : Nat) : Int) = n - b - 1 by omega] at this
    rw [this, List.getElem?_drop]
    unfold aheadOf
    rw [if_pos (by omega), show b.toNat + (n - b - 1).toNat = (n - 1).toNat by omega, List.getElem?_eq_getElem (by omega)]
    rfl
theorem ahead_top (hR : R ≠ []) : aheadOf R R.length = topOf R := by
  unfold aheadOf topOf
  have : 0 < R.length := List.length_pos_iff.mpr hR
  rw [if_pos (by omega), List.getLast?_eq_getElem?, show ((R.length : Int) - 1).toNat = R.length - 1 by omega]
theorem ahead_top' : aheadOf R R.length = topOf R := by
  by_cases h : R = []
  · subst h; rfl
  · exact ahead_top h
theorem lp_trim (h : HistOk R) (h1 : 0 ≤ b) {n : Int} (hn : b ≤ n) (h2 : n ≤ R.length) : trimP (lawPaper R b k more) n = lawPaper R n k more := by
  unfold trimP
  rw [lp_things h h1 hn, lp_term h1 hn h2]
  show Pp.mk _ n (aheadOf R n) (thingsOf R n.toNat) ((R.drop b.toNat).drop (n - b).toNat) k = _
  rw [List.drop_drop, show b.toNat + (n - b).toNat = n.toNat by omega]
  rfl
theorem ahead_bd (h : HistOk R) (h1 : 0 ≤ b) (h2 : b ≤ R.length) : 0 ≤ aheadOf R b ∧ aheadOf R b ≤ topOf R ∧ (0 < b → 1 ≤ aheadOf R b) ∧ topOf R ≤ 90000 ∧ 0 ≤ topOf R := by
  by_cases hR : R = []
  · subst hR
    have : b = 0 := by simp at h2; omega
    subst this
    exact ⟨by decide, by decide, by omega, by decide, by decide⟩
  · have hl : 0 < R.length := List.length_pos_iff.mpr hR
    have ht : topOf R = (R[R.length - 1]'(by omega)).1 := by
      unfold topOf
      rw [List.getLast?_eq_getElem?, List.getElem?_eq_getElem (by omega)]
      rfl
    have t1 := h.ge _ (List.getElem_mem (show R.length - 1 < R.length by omega))
    have t2 := h.le _ (List.getElem_mem (show R.length - 1 < R.length by omega))
    by_cases hb : 0 < b
    · have ha : aheadOf R b = (R[(b - 1).toNat]'(by omega)).1 := by
        unfold aheadOf
        rw [if_pos hb, List.getElem?_eq_getElem (by omega)]
        rfl
      have a1 := h.ge _ (List.getElem_mem (show (b - 1).toNat < R.length by omega))
      have a2 : aheadOf R b ≤ topOf R := by
        rw [ha, ht]
        by_cases e : (b - 1).toNat = R.length - 1
        · simp [e]
        · exact List.pairwise_iff_getElem.mp h.pw _ _ _ _ (by omega)
      rw [← ha] at a1
      rw [← ht] at t1 t2
      omega
    · have ha : aheadOf R b = 0 := by unfold aheadOf; rw [if_neg hb]
      rw [← ht] at t1 t2
      rw [ha]
      omega
theorem scan_ok {hi : Int} : ∀ {l : List Rw} {lo : Int}, (∀ r ∈ l, lo ≤ r.1 ∧ r.1 ≤ hi ∧ GoodD r.2) → l.Pairwise (fun a b => a.1 ≤ b.1) → (scan (rowStep hi) lo (l.map rowD)).isSome = true
  | [], _, _, _ => rfl
  | r :: l, lo, h, hp => by
    obtain ⟨h1, h2, h3⟩ := h r List.mem_cons_self
    obtain ⟨p1, p2⟩ := List.pairwise_cons.mp hp
    have hs : rowStep hi lo (rowD r) = some r.1 := by
      show (if (isWithin (.int r.1) lo hi && isDeed (ddD r.2)) = true then some r.1 else none) = _
      rw [if_pos]
      rw [(good_deed h3 []).1]
      show ((decide (lo ≤ r.1) && decide (r.1 ≤ hi)) && true) = true
      rw [decide_eq_true h1, decide_eq_true h2]
      rfl
    rw [List.map_cons, scan, hs]
    exact scan_ok (fun z hz => ⟨p1 z hz, (h z (List.mem_cons_of_mem _ hz)).2⟩) p2
theorem lp_paper9 (h : HistOk R) (hR : R.length ≤ 900) (h1 : 0 ≤ b) (h2 : b ≤ k) (h3 : k ≤ R.length) (hm : 0 ≤ more ∧ more ≤ 9000) (G : Gp) : isPaper (ppD (lawPaper R b k more)) = true ∧ okP G (ppD (lawPaper R b k more)) = true := by
  obtain ⟨a1, a2, a3, a4, a5⟩ := ahead_bd h h1 (show b ≤ R.length by omega)
  have gt := good_things (thingsOf_good h b.toNat) (thingsOf_sorted R b.toNat) (by have := good_len (thingsOf_good h b.toNat); omega) G
  have w : ∀ i lo hi : Int, lo ≤ i → i ≤ hi → isWithin (.int i) lo hi = true := fun i lo hi x y => by
    show (decide (lo ≤ i) && decide (i ≤ hi)) = true
    rw [decide_eq_true x, decide_eq_true y]
    rfl
  constructor
  · show (isWithin (.int (topOf R + more)) 0 100000 && (isWithin (.int b) 0 100000 && (isWithin (.int (aheadOf R b)) 0 (topOf R + more) && (areThings (.tup ((thingsOf R b.toNat).map Mw.pairD)) && (!((decide (b = 0) && (!decide (aheadOf R b = 0) || !isNilT (.tup ((thingsOf R b.toNat).map Mw.pairD)))) || (decide (0 < b) && decide (aheadOf R b = 0))) && ((scan (rowStep (topOf R + more)) (max (aheadOf R b) 1) ((R.drop b.toNat).map rowD)).isSome && isWithin (.int k) b (b + ((R.drop b.toNat).map rowD).length))))))) = true
    rw [w _ _ _ (by omega) (by omega), w b _ _ (by omega) (by omega), w _ _ _ a1 (by omega), gt.1, w k _ _ h2 (by rw [List.length_map, List.length_drop]; omega)]
    have hs : (scan (rowStep (topOf R + more)) (max (aheadOf R b) 1) ((R.drop b.toNat).map rowD)).isSome = true := by
      refine scan_ok (fun r hr => ?_) (h.drop _).pw
      have g := (h.drop b.toNat).good r hr
      have e1 := (h.drop b.toNat).ge r hr
      obtain ⟨i, hi, he⟩ := List.mem_iff_getElem.mp hr
      rw [List.getElem_drop] at he
      rw [List.length_drop] at hi
      have htop : r.1 ≤ topOf R := by
        rw [← he]
        unfold topOf
        rw [List.getLast?_eq_getElem?, List.getElem?_eq_getElem (by omega)]
        show (R[b.toNat + i]).1 ≤ (R[R.length - 1]).1
        by_cases e : b.toNat + i = R.length - 1
        · simp [e]
        · exact List.pairwise_iff_getElem.mp h.pw _ _ _ _ (by omega)
      have hah : aheadOf R b ≤ r.1 := by
        unfold aheadOf
        split
        · rw [List.getElem?_eq_getElem (by omega), ← he]
          exact List.pairwise_iff_getElem.mp h.pw _ _ _ _ (by omega)
        · omega
      exact ⟨by omega, by omega, g⟩
    rw [hs]
    by_cases hb : b = 0
    · subst hb
      have e1 : aheadOf R 0 = 0 := rfl
      have e2 : thingsOf R (0 : Int).toNat = [] := by simp [thingsOf, sortKV]
      rw [e1, e2]
      rfl
    · have hb2 : 0 < b := by omega
      have := a3 hb2
      rw [decide_eq_false hb, decide_eq_false (show ¬ aheadOf R b = 0 by omega)]
      simp
  · show (true && (true && (true && (okTs G (.tup ((thingsOf R b.toNat).map Mw.pairD)) && (okRs G (.tup ((R.drop b.toNat).map rowD)) && true))))) = true
    rw [gt.2]
    have : okRs G (.tup ((R.drop b.toNat).map rowD)) = true := by
      show (((R.drop b.toNat).map rowD).all (okOne G) && decide (((R.drop b.toNat).map rowD).length ≤ 1000)) = true
      rw [decide_eq_true (by rw [List.length_map, List.length_drop]; omega), Bool.and_true, List.all_eq_true]
      intro d hd
      obtain ⟨r, hr, rfl⟩ := List.mem_map.mp hd
      show (true && (okT G (ddD r.2) && true)) = true
      rw [(good_deed ((h.drop _).good r hr) G).2]
      rfl
    rw [this]
    rfl
theorem lp_paper (h : HistOk R) (hR : R.length ≤ 900) (h1 : 0 ≤ b) (h2 : b ≤ k) (h3 : k ≤ R.length) (hm : 0 ≤ more ∧ more ≤ 100) (G : Gp) : isPaper (ppD (lawPaper R b k more)) = true ∧ okP G (ppD (lawPaper R b k more)) = true := lp_paper9 h hR h1 h2 h3 ⟨hm.1, by omega⟩ G
end
end Mm
namespace Mm
open PySem L2 Mw
open PyProof.Rows hiding St
theorem eq_self {G : Gp} {a : D} (h : plainD 20 a = true) : dEq a a G = .ok true G := by rw [eq_plain h h, D.beq_self]
theorem plain_things {l : List KV} (h : GoodL l) (n : Nat) : plainD (n + 2) (.tup (l.map Mw.pairD)) = true := by
  show (l.map Mw.pairD).all (plainD (n + 1)) = true
  rw [List.all_eq_true]
  intro d hd
  obtain ⟨e, he, rfl⟩ := List.mem_map.mp hd
  show (plainD n (.str e.1) && (plainD n (.int e.2) && true)) = true
  rw [plain_str, plain_int, (keysC_key (h.all e he).1).2.1]
  rfl
theorem plain_lp {R : List Rw} {b k more : Int} (h : HistOk R) : plainD 20 (ppD (lawPaper R b k more)) = true := by
  show (true && (true && (true && (plainD 19 (.tup ((thingsOf R b.toNat).map Mw.pairD)) && (plainD 19 (.tup ((R.drop b.toNat).map rowD)) && (true && true)))))) = true
  rw [plain_things (thingsOf_good h _) 17, plain_rows (h.drop _).keys 16]
  rfl
theorem lookC_eq {f : Pp → Option D} {p : Pp} {G : Gp} {r : D} (h1 : okP G (ppD p) = true) (h2 : isPaper (ppD p) = true) (h3 : f p = some r) : lookC f [ppD p] G = .ok r G := by
  unfold lookC
  dsimp only
  rw [if_pos h1, if_pos h2, pp_D]
  simp only [Option.bind_some, h3]
theorem trim_eq {p : Pp} {G : Gp} {n : Int} (h1 : okP G (ppD p) = true) (h2 : isPaper (ppD p) = true) (h3 : p.base ≤ n) (h4 : n ≤ p.kept) (h5 : small? p n = true) : C_trimmed [ppD p, .int n] G = .ok (ppD (trimP p n)) G := by
  unfold C_trimmed
  dsimp only
  rw [if_pos ⟨h1, rfl⟩, if_pos h2, pp_D]
  simp only
  rw [if_pos (show isWithin (.int n) p.base p.kept = true by show (decide (p.base ≤ n) && decide (n ≤ p.kept)) = true; rw [decide_eq_true h3, decide_eq_true h4]; rfl)]
  rw [if_pos (show small? p (intOf (.int n)) = true from h5)]
  rfl
theorem trim_bad {p : Pp} {G : Gp} {d : D} (h1 : okP G (ppD p) = true) (h2 : isPaper (ppD p) = true) (h3 : okE G d = true) (h4 : isWithin d p.base p.kept = false) : C_trimmed [ppD p, d] G = .exc 5 G := by
  unfold C_trimmed
  dsimp only
  rw [if_pos ⟨h1, h3⟩, if_pos h2, pp_D]
  simp only
  rw [if_neg (by rw [h4]; decide)]
/-- rows[-1][0] if rows != () else 0 -/
theorem top_expr {i : Nat} {e : En} {G : Gp} {m : List Rw} (he : e[i]? = some (some (.tup (m.map rowD)))) (hm : m.all (fun r => okDk r.2) = true) :
    (mIf (mCmpB (notR dEq) (mVar i) (mTup maNil)) (mBin dIx (mBin dIx (mVar i) (mNeg (mC (.int 1)))) (mC (.int 0))) (mC (.int 0))) e G = .ok (.int (topOf m)) G := by
  have hne := eq_plain (G := G) (plain_rows hm 17) (show plainD 20 (.tup []) = true from rfl)
  rw [beq_nil] at hne
  cases m with
  | nil => simp at hne he; simp [hne, topOf, he]
  | cons r m =>
    have hl : atI ((r :: m).map rowD) (-1) = ((r :: m).getLast?).map rowD := by rw [atI_map, atI_last (by simp)]
    obtain ⟨z, hz⟩ : ∃ z, (r :: m).getLast? = some z := ⟨_, List.getLast?_eq_some_getLast (by simp)⟩
    rw [hz] at hl
    simp only [List.isEmpty_cons] at hne
    rw [List.map_cons] at hne hl he
    simp [hne, ix_tup hl, topOf, hz, he]
    simp [rowD, ix_tup]
theorem T_law_k03 {Γ : Fns} (h7 : Kn Γ 7 2 C__law_cell) (h8 : Kn Γ 8 2 C__law_seed) (h11 : Kn Γ 11 2 C__law_after) (h14 : Kn Γ 14 1 C_is_paper) (h16 : Kn Γ 16 4 C__law_paper) (h17 : Kn Γ 17 2 C__law_drawn_paper) (h20 : Kn Γ 20 1 C_length) (h23 : Kn Γ 23 1 C_last) (h25 : Kn Γ 25 1 C_things) (h26 : Kn Γ 26 2 C_trimmed) :
    ∀ ns : List Int, ns.length ≤ 63 → ∃ G, fnRun N_law_k03.length (eB Γ [0, 3, 5] b_law_k03) [.scr ns] [] = .ok (.bl true) G := by
  intro ns _
  have hcl : ∀ (k : Int) (G : Gp), 0 ≤ k → C__law_cell [.scr ns, .int k] G = .ok (.int (cell ns k)) G := fun k G h => if_pos h
  generalize hS : seedN (cell ns 0) 0 = S
  have hO : HistOk (drawnRows S 10) := hist_ok S _ (by unfold histN; omega)
  obtain ⟨d1, d2, d3, d4, d5⟩ := drawn_ok S 10 (by omega)
  have e17 : ∀ G, C__law_drawn_paper [.int S, .int 10] G = .ok (.tup [ppD (drawnPaper S 10), .tup ((drawnRows S 10).map rowD)]) G := fun G => by
    unfold C__law_drawn_paper
    dsimp only
    rw [if_pos (by omega)]
  unfold drawnPaper at e17
  generalize hmo : S / 19 % 3 = more at e17
  have hmore : 0 ≤ more ∧ more ≤ 100 := by omega
  generalize drawnBase S (drawnRows S 10).length = b at d4 d5 e17
  generalize drawnKept S (drawnRows S 10).length = k at d2 d3 d5 e17
  generalize drawnRows S 10 = R at d1 d3 hO e17
  have hpap : ∀ b' : Int, 0 ≤ b' → b' ≤ k → ∀ G, isPaper (ppD (lawPaper R b' k more)) = true ∧ okP G (ppD (lawPaper R b' k more)) = true := fun b' x y G => lp_paper hO (by omega) x y (by omega) hmore G
  have e20 : ∀ G, C_length [ppD (lawPaper R b k more)] G = .ok (.int R.length) G := fun G => lookC_eq (hpap b d4 d5 G).2 (hpap b d4 d5 G).1 (by rw [lp_len d4 (by omega)])
  have e23 : ∀ b' : Int, 0 ≤ b' → b' ≤ k → ∀ G, C_last [ppD (lawPaper R b' k more)] G = .ok (.tup [.int (topOf R), .int R.length]) G := fun b' x y G => lookC_eq (hpap b' x y G).2 (hpap b' x y G).1 (by
    rw [lp_len x (by omega), lp_term x (by omega) (Int.le_refl _), ahead_top']
    rfl)
  have e25 : ∀ b' : Int, 0 ≤ b' → b' ≤ k → ∀ G, C_things [ppD (lawPaper R b' k more)] G = .ok (.tup ((thingsOf R k.toNat).map Mw.pairD)) G := fun b' x y G => lookC_eq (hpap b' x y G).2 (hpap b' x y G).1 (by
    show (if small? (lawPaper R b' k more) k = true then some (D.tup ((thingsP (lawPaper R b' k more) k).map Mw.pairD)) else none) = _
    rw [if_pos (lp_small hO (by omega)), lp_things hO x y])
  have e26 : ∀ b' n : Int, 0 ≤ b' → b' ≤ n → n ≤ k → ∀ G, C_trimmed [ppD (lawPaper R b' k more), .int n] G = .ok (ppD (lawPaper R n k more)) G := fun b' n x y z G => by
    rw [trim_eq (hpap b' x (by omega) G).2 (hpap b' x (by omega) G).1 y z (lp_small hO (by omega)), lp_trim hO x y (by omega)]
  have eb : ∀ d G, okE G d = true → isWithin d b k = false → C_trimmed [ppD (lawPaper R b k more), d] G = .exc 5 G := fun d G x y => trim_bad (hpap b d4 d5 G).2 (hpap b d4 d5 G).1 x y
  have hpl : ∀ b' : Int, plainD 20 (ppD (lawPaper R b' k more)) = true := fun b' => plain_lp hO
  have hth : plainD 20 (.tup ((thingsOf R k.toNat).map Mw.pairD)) = true := plain_things (thingsOf_good hO _) 18
  refine law_ret ?_
  unfold b_law_k03
  simp only [eB]
  refine step [some (.scr ns), none, none, none, none, some (ppD (lawPaper R b k more)), some (.tup (R.map rowD)), none, none, none, none, none, none, none] (fun _ => True) ?_ fun G1 _ => ?_
  · refine ⟨[], ?_, trivial⟩
    simp [startD, N_law_k03, h7.1, h7.2, hcl, h8.1, h8.2, seed_eq, hS, h17.1, h17.2, e17]
  generalize hP : ppD (lawPaper R b k more) = P at e17
  refine step [some (.scr ns), none, none, none, none, some P, some (.tup (R.map rowD)), some (.int (topOf R + more)), some (.int b), some (.int (aheadOf R b)), some (.tup ((thingsOf R b.toNat).map Mw.pairD)), some (.tup ((R.drop b.toNat).map rowD)), some (.int k), none] (fun _ => True) ?_ fun G2 _ => ?_
  · refine ⟨G1, ?_, trivial⟩
    have hset : (Tg.tp [7, 8, 9, 10, 11, 12]).set P [some (.scr ns), none, none, none, none, some P, some (.tup (R.map rowD)), none, none, none, none, none, none, none] = some [some (.scr ns), none, none, none, none, some P, some (.tup (R.map rowD)), some (.int (topOf R + more)), some (.int b), some (.int (aheadOf R b)), some (.tup ((thingsOf R b.toNat).map Mw.pairD)), some (.tup ((R.drop b.toNat).map rowD)), some (.int k), none] := by rw [← hP]; rfl
    simp [-Tg.set, hset]
  generalize D.tup ((thingsOf R b.toNat).map Mw.pairD) = th
  generalize D.tup ((R.drop b.toNat).map rowD) = lf
  generalize aheadOf R b = ah
  have hP' : ∀ G, C_length [P] G = .ok (.int R.length) G := fun G => by rw [← hP]; exact e20 G
  have hP2 : ∀ G, C_last [P] G = .ok (.tup [.int (topOf R), .int R.length]) G := fun G => by rw [← hP]; exact e23 b d4 d5 G
  have hP3 : ∀ G, C_things [P] G = .ok (.tup ((thingsOf R k.toNat).map Mw.pairD)) G := fun G => by rw [← hP]; exact e25 b d4 d5 G
  have hP4 : ∀ n : Int, b ≤ n → n ≤ k → ∀ G, C_trimmed [P, .int n] G = .ok (ppD (lawPaper R n k more)) G := fun n x y G => by rw [← hP]; exact e26 b n d4 x y G
  have hP5 : ∀ d G, okE G d = true → isWithin d b k = false → C_trimmed [P, d] G = .exc 5 G := fun d G x y => by rw [← hP]; exact eb d G x y
  refine step [some (.scr ns), none, none, none, none, some P, some (.tup (R.map rowD)), some (.int (topOf R + more)), some (.int b), some (.int ah), some th, some lf, some (.int k), none] (fun _ => True) ?_ fun G3 _ => ?_
  · refine ⟨G2, ?_, trivial⟩
    have ht := top_expr (i := 6) (e := [some (.scr ns), none, none, none, none, some P, some (.tup (R.map rowD)), some (.int (topOf R + more)), some (.int b), some (.int ah), some th, some lf, some (.int k), none]) (G := G2) rfl hO.keys
    have hs : dEq (.tup [.int (topOf R), .int R.length]) (.tup [.int (topOf R), .int R.length]) G2 = .ok true G2 := eq_self rfl
    simp only [eS]
    simp only [eP, eOr, Cop.f, Bop.f, pl, eA, Blt.f]
    simp [-mIf, h20.1, h20.2, hP', fLen, eq_int, h23.1, h23.2, hP2, ht, hs]
  refine step [some (.scr ns), none, none, none, none, some P, some (.tup (R.map rowD)), some (.int (topOf R + more)), some (.int b), some (.int ah), some th, some lf, some (.int k), none] (fun _ => True) ?_ fun G4 _ => ?_
  · obtain ⟨J, hJ⟩ := rows_lc (i := 13) (it := miVal (mSl (mVar 6) none (some (mVar 12)))) (e := [some (.scr ns), none, none, none, none, some P, some (.tup (R.map rowD)), some (.int (topOf R + more)), some (.int b), some (.int ah), some th, some lf, some (.int k), none]) (G := G3) (G1 := G3) (m := R.take k.toNat) (by
      simp [dSl, cut_take d2, List.map_take]) (by rw [List.length_take]; omega) (by simp)
    generalize ha : (R.take k.toNat).map (·.2) = as at hJ
    refine ⟨G3 ++ .lst (as.map ddD) :: J, ?_, trivial⟩
    have hA := laft_eq (G := G3 ++ .lst (as.map ddD) :: J) (l := []) (d := .ref G3.length) (as := as) (by simp [seqOf]) List.nodup_nil (by rw [← ha, List.length_map, List.length_take]; simp; omega)
    simp only [List.map_nil] at hA
    have hT : sortKV (as.foldl app []) = thingsOf R k.toNat := by rw [← ha]; rfl
    rw [hT] at hA
    simp [h25.1, h25.2, hP3]
    rw [hJ]
    simp [h11.1, h11.2, hA, eq_self hth]
  generalize hn : b + cell ns 1 % (k - b + 1) = n
  have n0 := Int.emod_nonneg (cell ns 1) (show k - b + 1 ≠ 0 by omega)
  have n1 := Int.emod_lt_of_pos (cell ns 1) (show 0 < k - b + 1 by omega)
  have hn1 : b ≤ n := by omega
  have hn2 : n ≤ k := by omega
  refine step [some (.scr ns), some (.int n), none, none, none, some P, some (.tup (R.map rowD)), some (.int (topOf R + more)), some (.int b), some (.int ah), some th, some lf, some (.int k), none] (fun _ => True) ?_ fun G5 _ => ?_
  · refine ⟨G4, ?_, trivial⟩
    have q : 0 < k - b + 1 := by omega
    simp [h7.1, h7.2, hcl, dMod, q, hn]
  refine step [some (.scr ns), some (.int n), some (ppD (lawPaper R n k more)), none, none, some P, some (.tup (R.map rowD)), some (.int (topOf R + more)), some (.int b), some (.int ah), some th, some lf, some (.int k), none] (fun _ => True) ?_ fun G6 _ => ?_
  · refine ⟨G5, ?_, trivial⟩
    simp [h26.1, h26.2, hP4 n hn1 hn2]
  generalize hQ : ppD (lawPaper R n k more) = Q
  have q0 : 0 ≤ n := by omega
  refine step [some (.scr ns), some (.int n), some Q, none, none, some P, some (.tup (R.map rowD)), some (.int (topOf R + more)), some (.int b), some (.int ah), some th, some lf, some (.int k), none] (fun _ => True) ?_ fun G7 _ => ?_
  · refine ⟨G6, ?_, trivial⟩
    have e16 := lpaper_eq (G := G6) (m := R) (b := n) (k := k) (more := 0) q0 (by omega) (by omega) hO.keys
    have e14 : C_is_paper [Q] G6 = .ok (.bl true) G6 := by rw [← hQ, paper_eq (hpap n q0 hn2 G6).2, (hpap n q0 hn2 G6).1]
    have hs := eq_self (G := G6) (hpl n)
    rw [hQ] at hs
    have hcut : dSl (ppD (lawPaper R n k 0)) (some 1) none G6 = .ok (.tup [.int n, .int (aheadOf R n), .tup ((thingsOf R n.toNat).map Mw.pairD), .tup ((R.drop n.toNat).map rowD), .int k]) G6 := by
      show Mw.R.ok (D.tup (Mw.cutD _ (some 1) none)) G6 = _
      rw [cut_drop (by decide)]
      rfl
    have hadd : dAdd (.tup [.int (topOf R + more)]) (.tup [.int n, .int (aheadOf R n), .tup ((thingsOf R n.toNat).map Mw.pairD), .tup ((R.drop n.toNat).map rowD), .int k]) G6 = .ok Q G6 := by
      rw [add_tup (by simp), ← hQ]
      rfl
    simp only [eS]
    simp only [eP, eOr, Cop.f, Bop.f, pl, eA, eO]
    simp [h16.1, h16.2, e16]
    rw [hcut]
    simp only [Mw.R.bind_ok]
    rw [hadd]
    simp [hs, h14.1, h14.2, e14, dIs]
  have hQ2 : ∀ G, C_last [Q] G = .ok (.tup [.int (topOf R), .int R.length]) G := fun G => by rw [← hQ]; exact e23 n q0 hn2 G
  have hQ3 : ∀ G, C_things [Q] G = .ok (.tup ((thingsOf R k.toNat).map Mw.pairD)) G := fun G => by rw [← hQ]; exact e25 n q0 hn2 G
  have hQ4 : ∀ G, C_trimmed [Q, .int k] G = .ok (ppD (lawPaper R k k more)) G := fun G => by rw [← hQ]; exact e26 n k q0 hn2 (Int.le_refl _) G
  refine step [some (.scr ns), some (.int n), some Q, none, none, some P, some (.tup (R.map rowD)), some (.int (topOf R + more)), some (.int b), some (.int ah), some th, some lf, some (.int k), none] (fun _ => True) ?_ fun G8 _ => ?_
  · refine ⟨G7, ?_, trivial⟩
    have hs : dEq (.tup [.int (topOf R), .int R.length]) (.tup [.int (topOf R), .int R.length]) G7 = .ok true G7 := eq_self rfl
    have hs2 := eq_self (G := G7) (hpl k)
    simp [h25.1, h25.2, hP3, hQ3, eq_self hth, h23.1, h23.2, hP2, hQ2, hs, h26.1, h26.2, hP4 k d5 (Int.le_refl _), hQ4, hs2]
  refine step [some (.scr ns), some (.int n), some Q, some (.int 0), none, some P, some (.tup (R.map rowD)), some (.int (topOf R + more)), some (.int b), some (.int ah), some th, some lf, some (.int k), none] (fun _ => True) ?_ fun G9 _ => ?_
  · exact ⟨G8, by simp, trivial⟩
  refine step [some (.scr ns), some (.int n), some Q, some (.int 6), some (.tup [.int b]), some P, some (.tup (R.map rowD)), some (.int (topOf R + more)), some (.int b), some (.int ah), some th, some lf, some (.int k), none] (fun _ => True) ?_ fun Ga _ => ?_
  · refine ⟨G9, ?_, trivial⟩
    have x1 := hP5 (.int (b - 1)) G9 rfl (by show (decide (b ≤ b - 1) && _) = false; rw [decide_eq_false (by omega)]; rfl)
    have x2 := hP5 (.int (k + 1)) G9 rfl (by show (_ && decide (k + 1 ≤ k)) = false; rw [decide_eq_false (show ¬ k + 1 ≤ k by omega), Bool.and_false])
    have x3 := hP5 .non G9 rfl rfl
    have x4 := hP5 (.str "0") G9 (okE_str (by decide +kernel)) rfl
    have x5 := hP5 (.int (-1)) G9 rfl (by show (decide (b ≤ -1) && _) = false; rw [decide_eq_false (by omega)]; rfl)
    have x6 := hP5 (.tup [.int b]) G9 rfl rfl
    simp [mFor, forGo, Src.still, mTry, hdGo, exSub, h26.1, h26.2, x1, x2, x3, x4, x5, x6]
  refine ⟨Ga, ?_⟩
  simp [eq_int]
end Mm
namespace Mm
open PySem L2 Mw
open PyProof.Rows hiding St
def mixN (c p m : Int) : Int := ((c * 48271) % p) ^ 3 % p % m
def C__law_mix : FM := fun ds G => match ds with
  | [.int c, .int p, .int m] => if 0 < p ∧ p < 1000000 ∧ 0 < m then .ok (.int (mixN c p m)) G else .bad
  | _ => .bad
theorem K__law_mix {Γ : Fns} {xs : List Nat} : Cleans 3 (fnRun N__law_mix.length (eB Γ xs b__law_mix)) C__law_mix := by
  intro ds G hl hc hlt
  unfold C__law_mix
  split
  · rename_i c p m
    split
    · rename_i hp
      refine clr_ok ⟨[], ?_⟩ (Nat.le_refl _) hc rfl
      have h1 := Int.emod_nonneg (c * 48271) (show p ≠ 0 by omega)
      have h2 := Int.emod_lt_of_pos (c * 48271) hp.1
      have h : (c * 48271 % p).natAbs < 18446744073709551616 := by omega
      simp [fnRun, b__law_mix, startD, N__law_mix, dMul, dMod, dPow, mixN, h, hp.1, hp.2.2]
    · trivial
  · trivial
theorem cut_mid {ds : List D} {a : Int} (h : 0 ≤ a) : Mw.cutD ds (some a) (some (a + 3)) = (ds.drop a.toNat).take 3 := by
  unfold Mw.cutD HT.sIx
  simp only [if_neg (show ¬ a < 0 by omega), if_neg (show ¬ a + 3 < 0 by omega)]
  by_cases h2 : a.toNat ≤ ds.length
  · rw [Nat.min_eq_left h2]
    by_cases h3 : a.toNat + 3 ≤ ds.length
    · rw [Nat.min_eq_left (by omega), show (a + 3).toNat - a.toNat = 3 by omega]
    · rw [Nat.min_eq_right (by omega), List.take_of_length_le (by rw [List.length_drop]; omega), List.take_of_length_le (by rw [List.length_drop]; omega)]
  · rw [List.drop_of_length_le (show ds.length ≤ min a.toNat ds.length by omega), List.drop_of_length_le (show ds.length ≤ a.toNat by omega)]
    simp
def wholeD (p : Pp) : D := .tup [.str "whole", .int p.term, .int p.base, .int p.ahead, .tup (p.things.map Mw.pairD), .int p.kept]
def rowsD (p : Pp) (n : Int) : D := .tup [.str "rows", .int p.term, .int n, .int ((termAt p n).getD 0), .tup (((p.rows.drop (n - p.base).toNat).take 3).map rowD), .int p.kept]
def sentD (p : Pp) (n : Int) : D := if n < p.base then wholeD p else rowsD p n
def C_sent : FM := fun ds G => match ds with
  | [d, nd] => if okP G d = true ∧ okE G nd = true then (if isPaper d = true then (match pp? d with
    | some p => if (isWithin nd 0 (lenP p) && !decide (p.term = 0)) = true then .ok (sentD p (intOf nd)) G else .exc 5 G
    | none => .bad) else .exc 3 G) else .bad
  | _ => .bad
theorem ltD_sent {m : Nat} (p : Pp) (n : Int) : ltD m (sentD p n) = true := by
  unfold sentD
  split
  · show (true && (true && (true && (true && (ltD m (.tup (p.things.map Mw.pairD)) && (true && true)))))) = true
    rw [lt_pairs]
    rfl
  · show (true && (true && (true && (true && (ltD m (.tup (((p.rows.drop (n - p.base).toNat).take 3).map rowD)) && (true && true)))))) = true
    rw [ltD_rows]
    rfl
theorem K_sent {Γ : Fns} {xs : List Nat} (h0 : Kn Γ 0 3 C_is_within) (h18 : Kn Γ 18 1 C_look) (h19 : Kn Γ 19 1 C_length_of) (h21 : Kn Γ 21 2 C_term_at) : Cleans 2 (fnRun N_sent.length (eB Γ xs b_sent)) C_sent := by
  intro ds G hl hc hlt
  unfold C_sent
  split
  · rename_i d nd
    split
    · rename_i ho
      obtain ⟨ho, ho2⟩ := ho
      split
      · rename_i hp
        obtain ⟨p, rfl, hv⟩ := paper_inv hp
        rw [pp_D]
        simp only
        have i0 : dIx (ppD p) (.int 0) G = .ok (.int p.term) G := by simp [ppD, ix_tup]
        split
        · rename_i hw
          obtain ⟨hw, hz⟩ := ba hw
          have hz' : ¬ p.term = 0 := by simpa using hz
          obtain ⟨n, rfl, n1, n2⟩ := isWithin_inv hw
          simp only [intOf]
          refine clr_ok ⟨[], ?_⟩ (Nat.le_refl _) hc (ltD_sent _ _)
          have hset : (Tg.tp [3, 4, 5, 6, 7, 8]).set (ppD p) [some (ppD p), some (.int n), none, none, none, none, none, none, none] = some [some (ppD p), some (.int n), none, some (.int p.term), some (.int p.base), some (.int p.ahead), some (.tup (p.things.map Mw.pairD)), some (.tup (p.rows.map rowD)), some (.int p.kept)] := rfl
          unfold sentD
          by_cases hb : n < p.base
          · rw [if_pos hb]
            simp [-Tg.set, tg_nm, fnRun, b_sent, startD, N_sent, h18.1, h18.2, look_eq ho hp, h19.1, h19.2, length_eq, h0.1, h0.2, within_eq ho2, hw, i0, eq_int, hz', hset, hb, wholeD]
          · rw [if_neg hb]
            obtain ⟨t, ht⟩ := termAt_some (p := p) (n := n) (by omega) n2
            have hcut := cut_mid (ds := p.rows.map rowD) (show 0 ≤ n - p.base by omega)
            simp [-Tg.set, tg_nm, fnRun, b_sent, startD, N_sent, h18.1, h18.2, look_eq ho hp, h19.1, h19.2, length_eq, h0.1, h0.2, within_eq ho2, hw, i0, eq_int, hz', hset, hb, rowsD, dSl, hcut, h21.1, h21.2, term_eq ht, ht, List.map_take, List.map_drop]
        · rename_i hw
          refine clr_exc ⟨[], ?_⟩ (Nat.le_refl _) hc
          cases hw1 : isWithin nd 0 (lenP p) with
          | false => simp [fnRun, b_sent, startD, N_sent, h18.1, h18.2, look_eq ho hp, h19.1, h19.2, length_eq, h0.1, h0.2, within_eq ho2, hw1]
          | true =>
            have hz : p.term = 0 := by rw [hw1] at hw; simpa using hw
            rw [hz] at i0
            simp [fnRun, b_sent, startD, N_sent, h18.1, h18.2, look_eq ho hp, h19.1, h19.2, length_eq, h0.1, h0.2, within_eq ho2, hw1, i0, eq_int]
      · rename_i hp
        have hp' : isPaper d = false := by simpa using hp
        refine clr_exc ⟨[], ?_⟩ (Nat.le_refl _) hc
        simp [fnRun, b_sent, startD, N_sent, h18.1, h18.2, look_bad ho hp']
    · trivial
  · trivial
theorem sent_eq {p : Pp} {G : Gp} {n : Int} (h1 : okP G (ppD p) = true) (h2 : isPaper (ppD p) = true) (h3 : 0 ≤ n) (h4 : n ≤ lenP p) (h5 : ¬ p.term = 0) : C_sent [ppD p, .int n] G = .ok (sentD p n) G := by
  unfold C_sent
  dsimp only
  rw [if_pos ⟨h1, rfl⟩, if_pos h2, pp_D]
  simp only
  rw [if_pos (show (isWithin (.int n) 0 (lenP p) && !decide (p.term = 0)) = true by show ((decide (0 ≤ n) && decide (n ≤ lenP p)) && _) = true; rw [decide_eq_true h3, decide_eq_true h4, decide_eq_false h5]; rfl)]
  rfl
theorem sent_bad {p : Pp} {G : Gp} {d : D} (h1 : okP G (ppD p) = true) (h2 : isPaper (ppD p) = true) (h3 : okE G d = true) (h4 : (isWithin d 0 (lenP p) && !decide (p.term = 0)) = false) : C_sent [ppD p, d] G = .exc 5 G := by
  unfold C_sent
  dsimp only
  rw [if_pos ⟨h1, h3⟩, if_pos h2, pp_D]
  simp only
  rw [if_neg (by rw [h4]; decide)]
end Mm
namespace Mm
open PySem L2 Mw Mv
open PyProof.Rows hiding St
def E35 (ns : List Int) (s1 s2 s3 s4 s5 s6 s7 s8 s9 s10 s11 s12 s13 s14 : Option D) : En := [some (.scr ns), s1, s2, s3, s4, s5, s6, s7, s8, s9, s10, s11, s12, s13, s14, none, none, none]
def tpl (l : List KV) : D := .tup (l.map Mw.pairD)
def tdd (ds : List Dd) : D := .tup (ds.map ddD)
theorem dn {l : List KV} (gl : GoodL l) (sl : l.Pairwise (fun a b => leKV a b = true)) (hl : l.length ≤ 20) {as : List Dd} (ga : ∀ a ∈ as, GoodD a) (ha : as.length ≤ 20) (G : Gp) : C_done [tpl l, tdd as] G = .ok (tpl (as.foldl afterL l)) G :=
  done_ok (good_things gl sl (by omega) G).2 (good_things gl sl (by omega) G).1 ga (fits_len _ _ (by omega)) (by omega)
theorem fold_good {l : List KV} (gl : GoodL l) (sl : l.Pairwise (fun a b => leKV a b = true)) {as : List Dd} (ga : ∀ a ∈ as, GoodD a) : GoodL (as.foldl afterL l) ∧ (as.foldl afterL l).Pairwise (fun a b => leKV a b = true) ∧ (as.foldl afterL l).length ≤ l.length + as.length := by
  refine ⟨?_, fold_sorted sl as, ?_⟩
  · rw [fold_same gl sl ga]
    exact (gl.fold ga).sort
  · rw [fold_same gl sl ga, (sortKV_perm _).length_eq]
    exact fold_len l as
theorem same_tpl {l : List KV} (gl : GoodL l) (G : Gp) : notR dEq (tpl l) (tpl l) G = .ok false G := by
  have k : ∀ e ∈ l, PyData.strOk e.1 = true := fun e he => (keysC_key (gl.all e he).1).2.1
  have q := eq_things k k G
  unfold notR tpl
  rw [q]
  simp
theorem cutT (ds : List Dd) {N : Nat} (h : N ≤ ds.length) : Mw.cutD (ds.map ddD) none (some (N : Int)) = (ds.take N).map ddD := by
  unfold Mw.cutD
  rw [HT.sIx_none, HT.sIx_nat, List.length_map, Nat.min_eq_left h, List.drop_zero, Nat.sub_zero, List.map_take]
theorem cutR {α : Type} (f : α → D) (ds : List α) {N : Nat} (h : N ≤ ds.length) : Mw.cutD (ds.map f) (some (N : Int)) none = (ds.drop N).map f := by
  unfold Mw.cutD
  rw [HT.sIx_none, HT.sIx_nat, List.length_map, Nat.min_eq_left h, List.map_drop, List.take_of_length_le (by rw [List.length_drop, List.length_map]; exact Nat.le_refl _)]
theorem turn_len (ds : List Dd) : ∀ (ks : List Str), ks.Nodup → (turnD ks ds).length ≤ ds.length
  | [], _ => Nat.zero_le _
  | k :: ks, h => by
    obtain ⟨n1, n2⟩ := List.nodup_cons.mp h
    have e1 : turnD (k :: ks) ds = ofK k ds ++ turnD ks ds := by
      unfold turnD
      rw [List.flatMap_cons]
    have e2 : turnD ks ds = turnD ks (ds.filter fun d => !isK k d) := by
      have : ∀ k' ∈ ks, ofK k' ds = ofK k' (ds.filter fun d => !isK k d) := fun k' hk => by
        unfold ofK
        rw [List.filter_filter]
        refine List.filter_congr fun d _ => ?_
        unfold isK
        by_cases hd : kyD d = some k'
        · rw [hd]
          have : ¬ k' = k := fun z => n1 (z ▸ hk)
          simp [this]
        · simp [hd]
      unfold turnD
      clear n1 n2 h e1
      induction ks with
      | nil => rfl
      | cons a ks ih =>
        rw [List.flatMap_cons, List.flatMap_cons, this a List.mem_cons_self, ih fun k' hk => this k' (List.mem_cons_of_mem _ hk)]
    have l1 := turn_len (ds.filter fun d => !isK k d) ks n2
    have l2 : (ds.filter (isK k)).length + (ds.filter fun d => !isK k d).length = ds.length := by
      clear l1 e2 e1
      induction ds with
      | nil => rfl
      | cons d ds ih =>
        rw [List.filter_cons, List.filter_cons]
        by_cases hd : isK k d = true
        · rw [if_pos hd, if_neg (by simp [hd]), List.length_cons, List.length_cons]
          omega
        · rw [if_neg hd, if_pos (by simpa using hd), List.length_cons, List.length_cons]
          omega
    rw [e1, List.length_append, e2, ofK_eq]
    omega
theorem mem_turn {ds : List Dd} {ks : List Str} {d : Dd} (h : d ∈ turnD ks ds) : d ∈ ds := by
  unfold turnD at h
  obtain ⟨k, _, hd⟩ := List.mem_flatMap.mp h
  exact (List.mem_filter.mp hd).1
section
variable {Γ : Fns} {xs : List Nat} {e : En} {G : Gp} {ns : List Int} {L : List KV} {ds : List Dd}
def lcS (ie : ME) (it : MIt) : ME := .lc (.call 10 (.cons (.call 8 (.cons ie (.cons (.var 15) .nil))) .nil)) (.nm 15) it .none [("k", 15)]
theorem lc_seeds (h8 : Kn Γ 8 2 C__law_seed) (h10 : Kn Γ 10 1 C__law_deed) {ie : ME} {it : MIt} {n : Nat} (f : Int → Int) (hit : eI Γ it e G = .ok ⟨rangeD 0 n, none⟩ G) (hn : n ≤ 1000) (h15 : 15 < e.length) (he : ∀ k : Nat, k < n → ∀ J, (eP Γ ie).1 ((wipeE e [15]).set 15 (some (.int (k : Int)))) (G ++ J) = .ok (.int (f k)) (G ++ J)) :
    ∃ J, (eP Γ (lcS ie it)).1 e G = .ok (.ref G.length) (G ++ .lst (((List.range n).map fun (k : Nat) => deedN (seedN (f k) k)).map ddD) :: J) := by
  obtain ⟨J, hJ⟩ := lc_gen (Γ := Γ) (e := e) (G := G) (G1 := G) (i := 15) (it := it) (elt := .call 10 (.cons (.call 8 (.cons ie (.cons (.var 15) .nil))) .nil)) (tst := .none) (src := ⟨rangeD 0 n, none⟩) (onInt fun k => ddD (deedN (seedN (f k) k))) hit rfl (by simp [rangeD]; exact hn) (fun d hd J => by
    obtain ⟨k, hk, rfl⟩ := List.mem_map.mp hd
    have hk := List.mem_range.mp hk
    rw [show (0 : Int) + (k : Int) = k from Int.zero_add _]
    refine ⟨rfl, fun y hy => ?_⟩
    cases hy
    have hv : ((wipeE e [15]).set 15 (some (.int (k : Int))))[15]? = some (some (.int (k : Int))) := List.getElem?_set_self (by simp [wipeE]; exact h15)
    exact ev_call1 h10.1 (ev_call2 h8.1 (he k hk J) (ev_var hv) (by rw [h8.2]; rfl)) (by rw [h10.2]; rfl)) "k"
  refine ⟨J, ?_⟩
  rw [List.map_map]
  rw [fm_range] at hJ
  exact hJ
/-- 5: in two goes, and none at the end -/
theorem k35_two (h6 : Kn Γ 6 2 C_done) (gl : GoodL L) (sl : L.Pairwise (fun a b => leKV a b = true)) (ll : L.length ≤ 5) (gd : ∀ d ∈ ds, GoodD d) (dl : ds.length ≤ 10) {N : Nat} (hN : N ≤ ds.length) (e1 : e[1]? = some (some (tpl L))) (e3 : e[3]? = some (some (tdd ds))) (e4 : e[4]? = some (some (tpl (ds.foldl afterL L)))) (e5 : e[5]? = some (some (.int (N : Int)))) :
    eS Γ xs (nthS b_law_k35 5) e G = .nx e G := by
  have gt : ∀ d ∈ ds.take N, GoodD d := fun d hd => gd d (List.mem_of_mem_take hd)
  have gr : ∀ d ∈ ds.drop N, GoodD d := fun d hd => gd d (List.mem_of_mem_drop hd)
  obtain ⟨gF, sF, lF⟩ := fold_good gl sl gd
  obtain ⟨gM, sM, lM⟩ := fold_good gl sl gt
  have lt : (ds.take N).length ≤ 10 := by rw [List.length_take]; omega
  have lr : (ds.drop N).length ≤ 10 := by rw [List.length_drop]; omega
  have d1 := dn gl sl (by omega) gt (by omega) G
  have d2 := dn gM sM (by omega) gr (by omega) G
  rw [← List.foldl_append, List.take_append_drop] at d2
  have d3 := dn gl sl (by omega) (as := ds ++ [.non]) (fun d hd => by
    rcases List.mem_append.mp hd with hd | hd
    · exact gd d hd
    · rw [List.mem_singleton.mp hd]
      trivial) (by rw [List.length_append]; show ds.length + 1 ≤ 20; omega) G
  have f3 : (ds ++ [Dd.non]).foldl afterL L = ds.foldl afterL L := by
    rw [List.foldl_append]
    show sortKV (ds.foldl afterL L) = _
    exact (kv_unique (List.Perm.refl _) gF.nd sF).symm
  rw [f3] at d3
  have sl1 : (eP Γ (.sl (.var 3) .none (.some (.var 5)))).1 e G = .ok (tdd (ds.take N)) G := by
    have : dSl (tdd ds) none (some (N : Int)) G = .ok (tdd (ds.take N)) G := by
      show Mw.R.ok (D.tup (Mw.cutD (ds.map ddD) none (some (N : Int)))) G = _
      rw [cutT ds hN]
      rfl
    generalize tdd ds = X at e3 this
    generalize (N : Int) = Ni at e5 this
    simp [e3, e5, this]
  have sl2 : (eP Γ (.sl (.var 3) (.some (.var 5)) .none)).1 e G = .ok (tdd (ds.drop N)) G := by
    have : dSl (tdd ds) (some (N : Int)) none G = .ok (tdd (ds.drop N)) G := by
      show Mw.R.ok (D.tup (Mw.cutD (ds.map ddD) (some (N : Int)) none)) G = _
      rw [cutR ddD ds hN]
      rfl
    generalize tdd ds = X at e3 this
    generalize (N : Int) = Ni at e5 this
    simp [e3, e5, this]
  have cat : (eP Γ (.bin .add (.var 3) (.tup (.cons (.tup (.cons (.str "none") .nil)) .nil)))).1 e G = .ok (tdd (ds ++ [.non])) G := by
    have : dAdd (tdd ds) (.tup [.tup [.str "none"]]) G = .ok (tdd (ds ++ [.non])) G := by
      unfold tdd
      rw [add_tup (by rw [big_eq, List.length_map]; show ds.length + 1 ≤ _; omega), List.map_append]
      rfl
    generalize tdd ds = X at e3 this
    simp [e3, this]
  have sF := same_tpl gF G
  have c1 := ev_cmpT (Γ := Γ) (o := .ne) (ev_call2 h6.1 (ev_call2 h6.1 (ev_var e1) sl1 (by rw [h6.2]; exact d1)) sl2 (by rw [h6.2]; exact d2)) (ev_var e4) sF
  have c2 := ev_cmpT (Γ := Γ) (o := .ne) (ev_call2 h6.1 (ev_var e1) cat (by rw [h6.2]; exact d3)) (ev_var e4) sF
  exact if_no ((or_no c1).trans (or_one.trans c2))
/-- 9: another order -/
theorem k35_turn (h6 : Kn Γ 6 2 C_done) (gl : GoodL L) (sl : L.Pairwise (fun a b => leKV a b = true)) (ll : L.length ≤ 5) (gd : ∀ d ∈ ds, GoodD d) (dl : ds.length ≤ 10) (e1 : e[1]? = some (some (tpl L))) (e4 : e[4]? = some (some (tpl (ds.foldl afterL L)))) (e7 : e[7]? = some (some (tdd (turnD (keysD ds).reverse ds)))) :
    eS Γ xs (nthS b_law_k35 9) e G = .nx e G := by
  have gt : ∀ d ∈ turnD (keysD ds).reverse ds, GoodD d := fun d hd => gd d (mem_turn hd)
  have lt := turn_len ds (keysD ds).reverse ((List.reverse_perm _).nodup_iff.mpr (keysD_nodup ds))
  have d1 := dn gl sl (by omega) gt (by omega) G
  rw [fold_ext gl sl gt gd fun x => by rw [turn_all]] at d1
  exact if_no (ev_cmpT (o := .ne) (ev_call2 h6.1 (ev_var e1) (ev_var e7) (by rw [h6.2]; exact d1)) (ev_var e4) (same_tpl (fold_good gl sl gd).1 G))
/-- 11: adds -/
theorem k35_adds (h6 : Kn Γ 6 2 C_done) (gl : GoodL L) (sl : L.Pairwise (fun a b => leKV a b = true)) (ll : L.length ≤ 5) (gd : ∀ d ∈ ds, GoodD d) (dl : ds.length ≤ 10) (e1 : e[1]? = some (some (tpl L))) (e9 : e[9]? = some (some (tdd (ds.filter isAdd)))) :
    eS Γ xs (nthS b_law_k35 11) e G = .nx e G := by
  have la : (ds.filter isAdd).length ≤ 10 := Nat.le_trans (List.length_filter_le _ _) dl
  have ga : ∀ d ∈ ds.filter isAdd, GoodD d := fun d hd => gd d (List.mem_filter.mp hd).1
  have gr : ∀ d ∈ (ds.filter isAdd).reverse, GoodD d := fun d hd => ga d (List.mem_reverse.mp hd)
  have d1 := dn gl sl (by omega) ga (by omega) G
  have d2 := dn gl sl (by omega) gr (by rw [List.length_reverse]; omega) G
  rw [← fold_ext gl sl ga gr fun x => by
    have e : ofK x (ds.filter isAdd).reverse = (ofK x (ds.filter isAdd)).reverse := List.filter_reverse ..
    rw [e]
    exact adds_turn _ _ fun d hd => (List.mem_filter.mp (List.mem_filter.mp hd).1).2] at d2
  have rv : (eP Γ (.rev (.var 9) (.neg (.int 1)))).1 e G = .ok (tdd (ds.filter isAdd).reverse) G := by
    have : dRev (tdd (ds.filter isAdd)) (.int (-1)) G = .ok (tdd (ds.filter isAdd).reverse) G := by
      show Mw.R.ok (D.tup ((ds.filter isAdd).map ddD).reverse) G = _
      rw [← List.map_reverse]
      rfl
    generalize tdd (ds.filter isAdd) = X at e9 this
    simp [e9, this]
  exact if_no (ev_cmpT (o := .ne) (ev_call2 h6.1 (ev_var e1) (ev_var e9) (by rw [h6.2]; exact d1)) (ev_call2 h6.1 (ev_var e1) rv (by rw [h6.2]; exact d2)) (same_tpl (fold_good gl sl ga).1 G))
/-- 6: the keys -/
def lcKeys : ME := .lc (.ix (.var 16) (.int 1)) (.nm 16) (.val (.var 3)) (.some (.cmp .ne (.var 16) (.tup (.cons (.str "none") .nil)))) [("deed", 16)]
theorem src_tdd (e3 : e[3]? = some (some (tdd ds))) : eI Γ (.val (.var 3)) e G = .ok ⟨ds.map ddD, none⟩ G := by
  rw [eI]
  simp only [miVal]
  rw [ev_var e3]
  rfl
theorem at16 {d : D} (hl : e.length = 18) : ((wipeE e [16]).set 16 (some d))[16]? = some (some d) := List.getElem?_set_self (by simp [wipeE, hl])
theorem key_list : ∀ ds : List Dd, (ds.filter hasK).map (fun d => D.str ((kyD d).getD "")) = (ds.filterMap kyD).map D.str
  | [] => rfl
  | d :: ds => by
    rw [List.filter_cons, List.filterMap_cons]
    cases h : kyD d with
    | none =>
      rw [if_neg (by unfold hasK; rw [h]; decide)]
      exact key_list ds
    | some k =>
      rw [if_pos (by unfold hasK; rw [h]; rfl), List.map_cons, h]
      simp only [Option.getD_some, List.map_cons]
      rw [key_list ds]
theorem k35_keys (gd : ∀ d ∈ ds, GoodD d) (dl : ds.length ≤ 10) (hl : e.length = 18) (e3 : e[3]? = some (some (tdd ds))) :
    ∃ J, (eP Γ (.sset lcKeys)).1 e G = .ok (.ref (G ++ J).length) (G ++ J ++ [.lst ((keysD ds).map D.str)]) := by
  obtain ⟨J, hJ⟩ := lc_dd (Γ := Γ) (e := e) (G := G) (G1 := G) (i := 16) (it := .val (.var 3)) (elt := .ix (.var 16) (.int 1)) (tst := .some (.cmp .ne (.var 16) (.tup (.cons (.str "none") .nil)))) (s := ⟨ds.map ddD, none⟩) hasK (fun d => .str ((kyD d).getD "")) rfl (src_tdd e3) rfl (by omega) (fun d hd J => by
    exact ev_cmpT (o := .ne) (ev_var (at16 hl)) (d1 := .tup [.str "none"]) (G2 := G ++ J) (by simp) (ne_none d (gd d hd))) (fun d hd hp J => by
    cases hk : kyD d with
    | none =>
      unfold hasK at hp
      rw [hk] at hp
      cases hp
    | some k => exact (ev_ix (ev_var (at16 hl)) ev_int).trans (ix1 hk)) "deed"
  rw [key_list] at hJ
  refine ⟨.lst ((ds.filterMap kyD).map D.str) :: J, ?_⟩
  have few : (ds.filterMap kyD).length < 64 := Nat.lt_of_le_of_lt (List.length_filterMap_le _ _) (by omega)
  rw [eP]
  simp only [pl, mSset]
  rw [show (eP Γ lcKeys).1 e G = _ from hJ, Mw.R.bind_ok]
  have at0 : (G ++ O.lst ((ds.filterMap kyD).map D.str) :: J)[G.length]? = some (.lst ((ds.filterMap kyD).map D.str)) := by simp
  unfold dSset
  simp only [at0, txts_map]
  rw [if_pos few]
  rfl
/-- 8: the deeds, key by key -/
def lcK : ME := .lc (.var 16) (.nm 16) (.val (.var 3)) (.some tstK) [("deed", 16)]
theorem ev_lcK {k : Str} (gd : ∀ d ∈ ds, GoodD d) (dl : ds.length ≤ 10) (hk : k ∈ keysG) (hl : e.length = 18) (e3 : e[3]? = some (some (tdd ds))) (e8 : e[8]? = some (some (.str k))) : ∃ J, (eP Γ lcK).1 e G = .ok (.ref G.length) (G ++ .lst ((ofK k ds).map ddD) :: J) :=
  lc_dd (Γ := Γ) (e := e) (G := G) (G1 := G) (i := 16) (it := .val (.var 3)) (elt := .var 16) (tst := .some tstK) (s := ⟨ds.map ddD, none⟩) (isK k) ddD rfl (src_tdd e3) rfl (by omega) (fun d hd J => ev_tstK (gd d hd) hk (at16 hl) (by
    rw [List.getElem?_set_ne (by decide)]
    simp only [wipeE]
    rw [List.getElem?_set_ne (by decide)]
    exact e8)) (fun d hd hp J => ev_var (at16 hl)) "deed"
theorem tup_at {a : ME} {x : List D} {J : Gp} (h : (eP Γ a).1 e G = .ok (.ref G.length) (G ++ .lst x :: J)) : (eP Γ (.blt .tuple a .nil)).1 e G = .ok (.tup x) (G ++ .lst x :: J) := by
  rw [ev_blt h]
  have : (G ++ O.lst x :: J)[G.length]? = some (.lst x) := by simp
  simp only [Blt.f]
  unfold fTuple
  simp only [this]
theorem keys_good (gd : ∀ d ∈ ds, GoodD d) {k : Str} (h : k ∈ keysD ds) : k ∈ keysG := by
  obtain ⟨d, hd, hk⟩ := mem_keysD.mp h
  exact key_ok (gd d hd) hk
theorem turn_next (ks : List Str) {k : Nat} {x : Str} (h : ks[k]? = some x) : turnD (ks.take (k + 1)) ds = turnD (ks.take k) ds ++ ofK x ds := by
  rw [List.take_add_one, h]
  unfold turnD
  rw [List.flatMap_append]
  simp
theorem k35_for (gd : ∀ d ∈ ds, GoodD d) (dl : ds.length ≤ 10) {s1 s2 s4 s5 : Option D} {r : Nat} (hr : G[r]? = some (.lst ((keysD ds).map D.str))) :
    ∃ v8 J, eS Γ xs (nthS b_law_k35 8) (E35 ns s1 s2 (some (tdd ds)) s4 s5 (some (.ref r)) (some (tdd [])) none none none none none none none) G = .nx (E35 ns s1 s2 (some (tdd ds)) s4 s5 (some (.ref r)) (some (tdd (turnD (keysD ds).reverse ds))) v8 none none none none none none) (G ++ J) := by
  have nd : (keysD ds).reverse.Nodup := (List.reverse_perm _).nodup_iff.mpr (keysD_nodup ds)
  have hrev : ((keysD ds).map D.str).reverse = (keysD ds).reverse.map D.str := (List.map_reverse ..).symm
  have at0 : (G ++ [O.lst ((keysD ds).reverse.map D.str)])[G.length]? = some (.lst ((keysD ds).reverse.map D.str)) := by simp
  have hit : eI Γ (.val (.rev (.var 6) (.neg (.int 1)))) (E35 ns s1 s2 (some (tdd ds)) s4 s5 (some (.ref r)) (some (tdd [])) none none none none none none none) G = .ok ⟨(keysD ds).reverse.map D.str, some (.lst G.length)⟩ (G ++ [.lst ((keysD ds).reverse.map D.str)]) := by
    have d1 : dRev (.ref r) (.int (-1)) G = .ok (.ref G.length) (G ++ [.lst ((keysD ds).reverse.map D.str)]) := by
      unfold dRev
      simp only [hr]
      rw [hrev]
    have d2 : dSrc (.ref G.length) (G ++ [O.lst ((keysD ds).reverse.map D.str)]) = .ok ⟨(keysD ds).reverse.map D.str, some (.lst G.length)⟩ (G ++ [O.lst ((keysD ds).reverse.map D.str)]) := by
      unfold dSrc
      simp only [at0]
    unfold E35
    generalize tdd ds = X
    generalize tdd [] = Y
    generalize G ++ [O.lst ((keysD ds).reverse.map D.str)] = G1 at d1 d2
    simp [eI, d1, d2]
  generalize hks : (keysD ds).reverse = ks at nd hit at0
  have kg : ∀ k ∈ ks, k ∈ keysG := fun k hk => keys_good gd (List.mem_reverse.mp (by rw [hks]; exact hk))
  obtain ⟨e', G', h1, v8, J, rfl, rfl⟩ := for_any (t := .nm 8) (it := eI Γ (.val (.rev (.var 6) (.neg (.int 1))))) (B := eB Γ xs (forBody (nthS b_law_k35 8))) (e := E35 ns s1 s2 (some (tdd ds)) s4 s5 (some (.ref r)) (some (tdd [])) none none none none none none none) (G0 := G) (G := G ++ [.lst (ks.map D.str)]) (src := ⟨ks.map D.str, some (.lst G.length)⟩)
    (fun k e G' => ∃ v8 J, e = E35 ns s1 s2 (some (tdd ds)) s4 s5 (some (.ref r)) (some (tdd (turnD (ks.take k) ds))) v8 none none none none none none ∧ G' = G ++ [.lst (ks.map D.str)] ++ J) hit (fun k e G' hP => by
      obtain ⟨v8, J, _, rfl⟩ := hP
      exact still_lst (at_more at0)) ⟨none, [], rfl, by simp⟩ (fun k d e G' hd hP => by
      obtain ⟨v8, J, rfl, rfl⟩ := hP
      have hd' : (ks.map D.str)[k]? = some d := hd
      rw [List.getElem?_map] at hd'
      cases hx : ks[k]? with
      | none => rw [hx] at hd'; cases hd'
      | some x =>
        rw [hx] at hd'
        have hd2 : D.str x = d := Option.some.inj hd'
        subst hd2
        have xg := kg x (List.mem_of_getElem? hx)
        generalize hGx : G ++ [O.lst (ks.map D.str)] ++ J = Gx
        obtain ⟨J2, hJ⟩ := ev_lcK (Γ := Γ) (G := Gx) (e := E35 ns s1 s2 (some (tdd ds)) s4 s5 (some (.ref r)) (some (tdd (turnD (ks.take k) ds))) (some (.str x)) none none none none none none) gd dl xg rfl rfl rfl
        refine ⟨E35 ns s1 s2 (some (tdd ds)) s4 s5 (some (.ref r)) (some (tdd (turnD (ks.take k) ds))) (some (.str x)) none none none none none none, E35 ns s1 s2 (some (tdd ds)) s4 s5 (some (.ref r)) (some (tdd (turnD (ks.take (k + 1)) ds))) (some (.str x)) none none none none none none, Gx ++ .lst ((ofK x ds).map ddD) :: J2, rfl, .inl ?_, some (.str x), J ++ .lst ((ofK x ds).map ddD) :: J2, rfl, by rw [← hGx, List.append_assoc (G ++ [O.lst (ks.map D.str)])]⟩
        have lt := turn_len ds (ks.take (k + 1)) (nd.sublist (List.take_sublist _ _))
        have tn := turn_next (ds := ds) ks hx
        rw [tn] at lt ⊢
        rw [List.length_append] at lt
        have ad : dAdd (tdd (turnD (ks.take k) ds)) (.tup ((ofK x ds).map ddD)) (Gx ++ .lst ((ofK x ds).map ddD) :: J2) = .ok (tdd (turnD (ks.take k) ds ++ ofK x ds)) (Gx ++ .lst ((ofK x ds).map ddD) :: J2) := by
          unfold tdd
          rw [add_tup (by rw [big_eq, List.length_map, List.length_map]; omega), List.map_append]
        have tp := tup_at hJ
        have bn : (eP Γ (.bin .add (.var 7) (.blt .tuple lcK .nil))).1 (E35 ns s1 s2 (some (tdd ds)) s4 s5 (some (.ref r)) (some (tdd (turnD (ks.take k) ds))) (some (.str x)) none none none none none none) Gx = .ok (tdd (turnD (ks.take k) ds ++ ofK x ds)) (Gx ++ .lst ((ofK x ds).map ddD) :: J2) := by
          rw [eP]
          simp only [pl, mBin]
          rw [ev_var rfl, Mw.R.bind_ok, tp, Mw.R.bind_ok]
          exact ad
        exact eB1 (st := .asg (.nm 7) (.bin .add (.var 7) (.blt .tuple lcK .nil))) (ev_asg bn rfl))
  refine ⟨v8, [.lst (ks.map D.str)] ++ J, ?_⟩
  rw [← List.append_assoc]
  have full : ks.take (Src.mk (ks.map D.str) (some (.lst G.length))).ds.length = ks := by
    show ks.take (ks.map D.str).length = ks
    rw [List.length_map, List.take_length]
  rw [full] at h1
  exact h1
/-- 10: the adds -/
theorem k35_add (dl : ds.length ≤ 10) (hl : e.length = 18) (e3 : e[3]? = some (some (tdd ds))) : ∃ J, (eP Γ (.blt .tuple (.lc (.var 16) (.nm 16) (.val (.var 3)) (.some (.cmp .eq (.ix (.var 16) (.int 0)) (.str "add"))) [("deed", 16)]) .nil)).1 e G = .ok (tdd (ds.filter isAdd)) (G ++ J) := by
  obtain ⟨J, hJ⟩ := lc_dd (Γ := Γ) (e := e) (G := G) (G1 := G) (i := 16) (it := .val (.var 3)) (elt := .var 16) (tst := .some (.cmp .eq (.ix (.var 16) (.int 0)) (.str "add"))) (s := ⟨ds.map ddD, none⟩) isAdd ddD rfl (src_tdd e3) rfl (by omega) (fun d hd J => ev_cmpT (o := .eq) ((ev_ix (ev_var (at16 hl)) ev_int).trans (ix0 d)) (d1 := .str "add") (G2 := G ++ J) (by simp) (is_add d)) (fun d hd hp J => ev_var (at16 hl)) "deed"
  exact ⟨_, tup_at hJ⟩
/-- 12: the things as a dict -/
theorem k35_vals {F : List KV} (gF : GoodL F) (lF : F.length ≤ 100) (hl : e.length = 18) (e4 : e[4]? = some (some (tpl F))) : ∃ J, (eP Γ (.blt .dict (.lc (.tup (.cons (.var 8) (.cons (.var 17) .nil))) (.tp [8, 17]) (.val (.var 4)) .none [("key", 8), ("value", 17)]) .nil)).1 e G = .ok (.ref (G ++ J).length) (G ++ J ++ [.dct (F.map kvD)]) := by
  have hit : eI Γ (.val (.var 4)) e G = .ok ⟨F.map Mw.pairD, none⟩ G := by
    rw [eI]
    simp only [miVal]
    rw [ev_var e4]
    rfl
  obtain ⟨J, hJ⟩ := mLc_ok (t := .tp [8, 17]) (it := eI Γ (.val (.var 4))) (tst := mYes) (elt := (eP Γ (.tup (.cons (.var 8) (.cons (.var 17) .nil)))).1) (vs := [8, 17]) (e := e) (G := G) (G1 := G) (s := ⟨F.map Mw.pairD, none⟩) (fun d => some d) hit rfl (by rw [big_eq]; show (F.map Mw.pairD).length ≤ _; rw [List.length_map]; omega) (fun d hd acc J => by
    obtain ⟨x, _, rfl⟩ := List.mem_map.mp hd
    refine ⟨((wipeE e [8, 17]).set 8 (some (.str x.1))).set 17 (some (.int x.2)), true, J, rfl, rfl, .inr ⟨rfl, _, J, rfl, ?_⟩⟩
    have h8 : (((wipeE e [8, 17]).set 8 (some (.str x.1))).set 17 (some (.int x.2)))[8]? = some (some (.str x.1)) := by
      rw [List.getElem?_set_ne (by decide), List.getElem?_set_self (by simp [wipeE, hl])]
    have h17 : (((wipeE e [8, 17]).set 8 (some (.str x.1))).set 17 (some (.int x.2)))[17]? = some (some (.int x.2)) := List.getElem?_set_self (by simp [wipeE, hl])
    generalize ((wipeE e [8, 17]).set 8 (some (.str x.1))).set 17 (some (.int x.2)) = e2 at h8 h17
    generalize G ++ O.lst acc :: J = Gx
    simp [h8, h17]
    rfl)
  have hJ' : (eP Γ (.lc (.tup (.cons (.var 8) (.cons (.var 17) .nil))) (.tp [8, 17]) (.val (.var 4)) .none [("key", 8), ("value", 17)])).1 e G = .ok (.ref G.length) (G ++ .lst (F.map Mw.pairD) :: J) := by
    rw [eP]
    refine hJ.trans ?_
    show Mw.R.ok (D.ref G.length) (G ++ .lst ((F.map Mw.pairD).filterMap fun d => some d) :: J) = _
    rw [List.filterMap_some]
  refine ⟨.lst (F.map Mw.pairD) :: J, ?_⟩
  rw [ev_blt hJ']
  have at0 : (G ++ O.lst (F.map Mw.pairD) :: J)[G.length]? = some (.lst (F.map Mw.pairD)) := by simp
  simp only [Blt.f]
  unfold fDict
  simp only [at0, pairs_kv]
  rw [merge_kv F gF.nd]
/-- the last of a list -/
theorem last_ix {r v : Nat} {l : List Int} {x : Int} (hv : e[v]? = some (some (.ref r))) (h : G[r]? = some (.lst ((l ++ [x]).map D.int))) : (eP Γ (.ix (.var v) (.neg (.int 1)))).1 e G = .ok (.int x) G := by
  have n1 : (eP Γ (.neg (.int 1))).1 e G = .ok (.int (-1)) G := by simp
  rw [ev_ix (ev_var hv) n1]
  refine ix_lst h ?_
  rw [atI_map]
  have : atI (l ++ [x]) (-1) = some x := by
    unfold atI
    have q : ixN (l ++ [x]).length (-1) = some l.length := by
      unfold ixN
      rw [List.length_append]
      simp
      omega
    rw [q]
    simp
  rw [this]
  rfl
theorem num_range {d : Dd} (h : GoodD d) : 0 ≤ numD d ∧ numD d ≤ 9999 := by
  cases d with
  | non => exact ⟨by decide, by decide⟩
  | put k v => exact h.2
  | add k v => exact h.2
  | drop k =>
    show (0 : Int) ≤ 0 ∧ (0 : Int) ≤ 9999
    decide
def natL (l : List Nat) : List Int := l.map fun (k : Nat) => (k : Int)
/-- the places of what is no add, as a list -/
theorem k35_base {mine : List Dd} {r : Nat} (lm : mine.length ≤ 10) (hl : e.length = 18) (h11 : e[11]? = some (some (.ref r))) (hr : G[r]? = some (.lst (mine.map ddD))) :
    ∃ J, (eP Γ (.lc (.var 15) (.tp [15, 16]) (.enum (.var 11)) (.some (.cmp .ne (.ix (.var 16) (.int 0)) (.str "add"))) [("k", 15), ("deed", 16)])).1 e G = .ok (.ref G.length) (G ++ .lst ((natL (baseN mine 0)).map D.int) :: J) := by
  have hit : eI Γ (.enum (.var 11)) e G = .ok ⟨enumD (mine.map ddD), some (.enu r)⟩ G := by simp [eI, h11, hr]
  obtain ⟨J, hJ⟩ := mLc_ok (t := .tp [15, 16]) (it := eI Γ (.enum (.var 11))) (tst := eTst Γ (.some (.cmp .ne (.ix (.var 16) (.int 0)) (.str "add")))) (elt := (eP Γ (.var 15)).1) (vs := [15, 16]) (e := e) (G := G) (G1 := G) (s := ⟨enumD (mine.map ddD), some (.enu r)⟩) fBase hit (by
    unfold Src.still
    simp only [hr]
    exact beqs_self _) (by rw [big_eq]; unfold enumD; simp; omega) (fun d hd acc J => by
    obtain ⟨⟨y, i⟩, hx, rfl⟩ := List.mem_map.mp hd
    have hy : y ∈ mine.map ddD := (List.mem_zipIdx hx).2.2 ▸ List.getElem_mem _
    obtain ⟨x, _, rfl⟩ := List.mem_map.mp hy
    have h15 : (((wipeE e [15, 16]).set 15 (some (.int (i : Nat)))).set 16 (some (ddD x)))[15]? = some (some (.int (i : Nat))) := by
      rw [List.getElem?_set_ne (by decide), List.getElem?_set_self (by simp [wipeE, hl])]
    have h16 : (((wipeE e [15, 16]).set 15 (some (.int (i : Nat)))).set 16 (some (ddD x)))[16]? = some (some (ddD x)) := List.getElem?_set_self (by simp [wipeE, hl])
    have ef : fBase (D.tup [.int (i : Nat), ddD x]) = if (!isAdd x) = true then some (.int (i : Nat)) else none := fDd_at _ _ _
    refine ⟨((wipeE e [15, 16]).set 15 (some (.int (i : Nat)))).set 16 (some (ddD x)), !isAdd x, J, rfl, ?_, ?_⟩
    · have q := is_add (G := G ++ O.lst acc :: J) x
      refine ev_cmpT (o := .ne) ((ev_ix (ev_var h16) ev_int).trans (ix0 x)) (d1 := .str "add") (G2 := G ++ O.lst acc :: J) (by simp) ?_
      show notR dEq _ _ _ = _
      unfold notR
      rw [q]
      rfl
    · show _ ∨ _
      rw [ef]
      by_cases ha : isAdd x = true
      · exact .inl ⟨by simp [ha], by simp [ha]⟩
      · exact .inr ⟨by simp [ha], _, J, by simp [ha], ev_var h15⟩)
  refine ⟨J, ?_⟩
  rw [eP]
  refine hJ.trans ?_
  have := base_list mine 0
  show Mw.R.ok (D.ref G.length) (G ++ .lst ((((mine.map ddD).zipIdx).map fun x => D.tup [.int (x.2 : Nat), x.1]).filterMap fBase) :: J) = _
  rw [this]
  unfold natL
  rw [List.map_map]
  rfl
/-- 13: what stands at a key -/
def body35 : MB := forBody (nthS b_law_k35 13)
theorem k35_key (gl : GoodL L) (sl : L.Pairwise (fun a b => leKV a b = true)) (gd : ∀ d ∈ ds, GoodD d) (dl : ds.length ≤ 10) {s1 s2 s4 s5 s6 s7 s9 v11 v12 v13 v14 : Option D} {rv : Nat} {k : Str} (hk : k ∈ keysG) (hrv : G[rv]? = some (.dct ((ds.foldl afterL L).map kvD))) :
    ∃ w11 w12 w13 w14 J, eB Γ xs body35 (E35 ns s1 s2 (some (tdd ds)) s4 s5 s6 s7 (some (.str k)) s9 (some (.ref rv)) v11 v12 v13 v14) G = .nx (E35 ns s1 s2 (some (tdd ds)) s4 s5 s6 s7 (some (.str k)) s9 (some (.ref rv)) w11 w12 w13 w14) (G ++ J) := by
  rw [show body35 = .cons (nthS body35 0) (.cons (nthS body35 1) (.cons (nthS body35 2) .nil)) from rfl]
  obtain ⟨J0, e0⟩ := ev_lcK (Γ := Γ) (G := G) (e := E35 ns s1 s2 (some (tdd ds)) s4 s5 s6 s7 (some (.str k)) s9 (some (.ref rv)) v11 v12 v13 v14) gd dl hk rfl rfl rfl
  have a0 : eS Γ xs (nthS body35 0) (E35 ns s1 s2 (some (tdd ds)) s4 s5 s6 s7 (some (.str k)) s9 (some (.ref rv)) v11 v12 v13 v14) G = .nx (E35 ns s1 s2 (some (tdd ds)) s4 s5 s6 s7 (some (.str k)) s9 (some (.ref rv)) (some (.ref G.length)) v12 v13 v14) (G ++ .lst ((ofK k ds).map ddD) :: J0) := ev_asgLc e0 rfl
  rw [eBc a0]
  have g11 : (G ++ O.lst ((ofK k ds).map ddD) :: J0)[G.length]? = some (.lst ((ofK k ds).map ddD)) := by simp
  have look := fold_get gl sl gd k
  have gm : ∀ d ∈ ofK k ds, GoodD d ∧ kyD d = some k := fun d hd => ⟨gd d (List.mem_filter.mp hd).1, of_decide_eq_true (List.mem_filter.mp hd).2⟩
  have lm : (ofK k ds).length ≤ 10 := Nat.le_trans (List.length_filter_le _ _) dl
  generalize ofK k ds = mine at g11 look gm lm
  have hrv1 := at_more (J := O.lst (mine.map ddD) :: J0) hrv
  generalize hG1 : G ++ O.lst (mine.map ddD) :: J0 = G1 at g11 hrv1
  obtain ⟨J1, e1⟩ := k35_base (Γ := Γ) (G := G1) (e := E35 ns s1 s2 (some (tdd ds)) s4 s5 s6 s7 (some (.str k)) s9 (some (.ref rv)) (some (.ref G.length)) v12 v13 v14) lm rfl rfl g11
  have a1 : eS Γ xs (nthS body35 1) (E35 ns s1 s2 (some (tdd ds)) s4 s5 s6 s7 (some (.str k)) s9 (some (.ref rv)) (some (.ref G.length)) v12 v13 v14) G1 = .nx (E35 ns s1 s2 (some (tdd ds)) s4 s5 s6 s7 (some (.str k)) s9 (some (.ref rv)) (some (.ref G.length)) (some (.ref G1.length)) v13 v14) (G1 ++ .lst ((natL (baseN mine 0)).map D.int) :: J1) := ev_asgLc e1 rfl
  rw [eBc a1]
  have g12 : (G1 ++ O.lst ((natL (baseN mine 0)).map D.int) :: J1)[G1.length]? = some (.lst ((natL (baseN mine 0)).map D.int)) := by simp
  have g11b := at_more (J := O.lst ((natL (baseN mine 0)).map D.int) :: J1) g11
  have hrv2 := at_more (J := O.lst ((natL (baseN mine 0)).map D.int) :: J1) hrv1
  generalize hG2 : G1 ++ O.lst ((natL (baseN mine 0)).map D.int) :: J1 = G2 at g12 g11b hrv2
  have g11c := at_more (J := [O.lst []]) g11b
  have g12c := at_more (J := [O.lst []]) g12
  have hrv3 := at_more (J := [O.lst []]) hrv2
  have gnil : (G2 ++ [O.lst []])[G2.length]? = some (.lst []) := by simp
  have cnd : (eP Γ (.cmp .ne (.var 12) (.lst .nil))).2 (E35 ns s1 s2 (some (tdd ds)) s4 s5 s6 s7 (some (.str k)) s9 (some (.ref rv)) (some (.ref G.length)) (some (.ref G1.length)) v13 v14) G2 = .ok (!(natL (baseN mine 0)).isEmpty) (G2 ++ [.lst []]) :=
    ev_cmpT (o := .ne) (ev_var rfl) (d1 := .ref G2.length) (G2 := G2 ++ [O.lst []]) (by simp) (ne_nil g12c gnil)
  have heap : ∀ X : Gp, ∃ J, G2 ++ X = G ++ J := fun X => ⟨O.lst (mine.map ddD) :: J0 ++ O.lst ((natL (baseN mine 0)).map D.int) :: J1 ++ X, by rw [← hG2, ← hG1]; simp⟩
  rcases base_last mine 0 with hb | ⟨pre, f, tail, em, hf, ht, lb, hb⟩
  · rw [hb] at cnd
    obtain ⟨J, hJ⟩ := heap [.lst []]
    refine ⟨some (.ref G.length), some (.ref G1.length), v13, v14, J, ?_⟩
    rw [← hJ]
    exact eB1 (st := nthS body35 2) (if_no cnd)
  · rw [Nat.zero_add] at hb
    rw [hb] at cnd g12c
    have cnd' : (eP Γ (.cmp .ne (.var 12) (.lst .nil))).2 (E35 ns s1 s2 (some (tdd ds)) s4 s5 s6 s7 (some (.str k)) s9 (some (.ref rv)) (some (.ref G.length)) (some (.ref G1.length)) v13 v14) G2 = .ok true (G2 ++ [.lst []]) := by
      rw [cnd]
      congr 1
      unfold natL
      cases lb <;> rfl
    have g12d : (G2 ++ [O.lst []])[G1.length]? = some (.lst ((natL lb ++ [(pre.length : Int)]).map D.int)) := by
      rw [g12c]
      unfold natL
      rw [List.map_append]
      rfl
    have hfm : f ∈ mine := by rw [em]; simp
    obtain ⟨gf, kf⟩ := gm f hfm
    have hlast := last_tells (pre := pre) (tail := tail) (w := getL L k) hf (by rw [kf]; simp) (num_range gf) ht
    rw [← em, ← look] at hlast
    generalize hG3 : G2 ++ [O.lst []] = G3 at cnd' g11c g12d hrv3
    have lx : ∀ (v13 v14 : Option D) (J : Gp), (eP Γ (.ix (.var 12) (.neg (.int 1)))).1 (E35 ns s1 s2 (some (tdd ds)) s4 s5 s6 s7 (some (.str k)) s9 (some (.ref rv)) (some (.ref G.length)) (some (.ref G1.length)) v13 v14) (G3 ++ J) = .ok (.int (pre.length : Int)) (G3 ++ J) := fun _ _ J => last_ix (v := 12) rfl (at_more g12d)
    have lx0 := lx v13 v14 []
    rw [List.append_nil] at lx0
    -- the last that is no add
    have b0 : eS Γ xs (.asg (.nm 13) (.ix (.var 11) (.ix (.var 12) (.neg (.int 1))))) (E35 ns s1 s2 (some (tdd ds)) s4 s5 s6 s7 (some (.str k)) s9 (some (.ref rv)) (some (.ref G.length)) (some (.ref G1.length)) v13 v14) G3 = .nx (E35 ns s1 s2 (some (tdd ds)) s4 s5 s6 s7 (some (.str k)) s9 (some (.ref rv)) (some (.ref G.length)) (some (.ref G1.length)) (some (ddD f)) v14) G3 := by
      refine ev_asg ((ev_ix (ev_var rfl) lx0).trans (ix_lst g11c ?_)) rfl
      rw [atI_nat _ (by rw [List.length_map, em]; simp), List.getElem?_map, em]
      simp
    -- what is added behind it
    have hcut : Mw.cutD (mine.map ddD) (some ((pre.length + 1 : Nat) : Int)) none = tail.map ddD := by
      rw [cutR ddD mine (by rw [em]; simp), em]
      congr 1
      rw [show pre ++ f :: tail = (pre ++ [f]) ++ tail by simp]
      exact List.drop_left' (by simp)
    have lx1 := lx (some (ddD f)) v14 []
    rw [List.append_nil] at lx1
    generalize hEa : E35 ns s1 s2 (some (tdd ds)) s4 s5 s6 s7 (some (.str k)) s9 (some (.ref rv)) (some (.ref G.length)) (some (.ref G1.length)) (some (ddD f)) v14 = Ea at lx1
    have a11 : Ea[11]? = some (some (.ref G.length)) := by rw [← hEa]; rfl
    have aLen : Ea.length = 18 := by rw [← hEa]; rfl
    have pb : (eP Γ (.bin .add (.ix (.var 12) (.neg (.int 1))) (.int 1))).1 Ea G3 = .ok (.int ((pre.length + 1 : Nat) : Int)) G3 := by
      rw [eP]
      simp only [pl, mBin]
      rw [lx1, Mw.R.bind_ok, ev_int, Mw.R.bind_ok]
      rfl
    have slE : (eP Γ (.sl (.var 11) (.some (.bin .add (.ix (.var 12) (.neg (.int 1))) (.int 1))) .none)).1 Ea G3 = .ok (.ref G3.length) (G3 ++ [.lst (tail.map ddD)]) := by
      rw [eP]
      simp only [pl, mSl, eO, mPart]
      rw [ev_var a11]
      simp only [Mw.R.bind_ok]
      rw [pb]
      simp only [Mw.R.bind_ok]
      unfold dSl
      simp only [g11c]
      rw [hcut]
    have at3 : (G3 ++ [O.lst (tail.map ddD)])[G3.length]? = some (.lst (tail.map ddD)) := by simp
    have hit : eI Γ (.val (.sl (.var 11) (.some (.bin .add (.ix (.var 12) (.neg (.int 1))) (.int 1))) .none)) Ea G3 = .ok ⟨tail.map ddD, some (.lst G3.length)⟩ (G3 ++ [.lst (tail.map ddD)]) := by
      rw [eI]
      simp only [miVal]
      rw [slE]
      simp only [Mw.R.bind_ok]
      unfold dSrc
      simp only [at3]
    have lt : tail.length ≤ 1000 := by
      have : mine.length = pre.length + (tail.length + 1) := by rw [em]; simp
      omega
    obtain ⟨J4, e4⟩ := lc_dd (Γ := Γ) (e := Ea) (G := G3) (i := 16) (elt := .ix (.var 16) (.int 2)) (tst := .none) (fun _ => true) (fun d => .int (numD d)) rfl hit (still_lst at3) lt (fun d hd J => rfl) (fun d hd _ J => (ev_ix (ev_var (at16 aLen)) ev_int).trans (ix2 (.inl (ht d hd)))) "deed"
    rw [List.filter_eq_self.mpr fun _ _ => rfl, show tail.map (fun d => D.int (numD d)) = (tail.map numD).map D.int by rw [List.map_map]; rfl] at e4
    have g11d := at_more (J := [O.lst (tail.map ddD)]) g11c
    have g12e := at_more (J := [O.lst (tail.map ddD)]) g12d
    have hrv4 := at_more (J := [O.lst (tail.map ddD)]) hrv3
    have hG4 : ∃ X, G3 ++ [O.lst (tail.map ddD)] = G2 ++ X := ⟨[.lst []] ++ [.lst (tail.map ddD)], by rw [← hG3]; simp⟩
    have lx4 : ∀ (v13 v14 : Option D) (J : Gp), (eP Γ (.ix (.var 12) (.neg (.int 1)))).1 (E35 ns s1 s2 (some (tdd ds)) s4 s5 s6 s7 (some (.str k)) s9 (some (.ref rv)) (some (.ref G.length)) (some (.ref G1.length)) v13 v14) (G3 ++ [O.lst (tail.map ddD)] ++ J) = .ok (.int (pre.length : Int)) (G3 ++ [O.lst (tail.map ddD)] ++ J) := fun _ _ J => last_ix (v := 12) rfl (at_more g12e)
    generalize G3 ++ [O.lst (tail.map ddD)] = G4 at e4 g11d g12e hrv4 hG4 lx4
    have at4 : (G4 ++ O.lst ((tail.map numD).map D.int) :: J4)[G4.length]? = some (.lst ((tail.map numD).map D.int)) := by simp
    have sm : (eP Γ (.blt .sum (.lc (.ix (.var 16) (.int 2)) (.nm 16) (.val (.sl (.var 11) (.some (.bin .add (.ix (.var 12) (.neg (.int 1))) (.int 1))) .none)) .none [("deed", 16)]) .nil)).1 Ea G3 = .ok (.int (sumD tail)) (G4 ++ .lst ((tail.map numD).map D.int) :: J4) := by
      rw [ev_blt e4]
      simp only [Blt.f]
      unfold fSum
      simp only [at4, ints_D]
      rfl
    rw [← hEa] at sm
    have g11e := at_more (J := O.lst ((tail.map numD).map D.int) :: J4) g11d
    have hrv5 := at_more (J := O.lst ((tail.map numD).map D.int) :: J4) hrv4
    have lx5 := lx4 (some (ddD f)) (some (.int (sumD tail))) (O.lst ((tail.map numD).map D.int) :: J4)
    obtain ⟨J, hJ⟩ : ∃ J, G4 ++ O.lst ((tail.map numD).map D.int) :: J4 = G ++ J := by
      obtain ⟨X, hX⟩ := hG4
      obtain ⟨J, hJ⟩ := heap (X ++ O.lst ((tail.map numD).map D.int) :: J4)
      exact ⟨J, by rw [hX, List.append_assoc]; exact hJ⟩
    generalize G4 ++ O.lst ((tail.map numD).map D.int) :: J4 = G5 at sm g11e hrv5 lx5 hJ
    have b1 : eS Γ xs (.asg (.nm 14) (.blt .sum (.lc (.ix (.var 16) (.int 2)) (.nm 16) (.val (.sl (.var 11) (.some (.bin .add (.ix (.var 12) (.neg (.int 1))) (.int 1))) .none)) .none [("deed", 16)]) .nil)) (E35 ns s1 s2 (some (tdd ds)) s4 s5 s6 s7 (some (.str k)) s9 (some (.ref rv)) (some (.ref G.length)) (some (.ref G1.length)) (some (ddD f)) v14) G3 = .nx (E35 ns s1 s2 (some (tdd ds)) s4 s5 s6 s7 (some (.str k)) s9 (some (.ref rv)) (some (.ref G.length)) (some (.ref G1.length)) (some (ddD f)) (some (.int (sumD tail)))) G5 := ev_asg sm rfl
    -- the look
    generalize hEb : E35 ns s1 s2 (some (tdd ds)) s4 s5 s6 s7 (some (.str k)) s9 (some (.ref rv)) (some (.ref G.length)) (some (.ref G1.length)) (some (ddD f)) (some (.int (sumD tail))) = Eb at lx5
    have c8 : Eb[8]? = some (some (.str k)) := by rw [← hEb]; rfl
    have c10 : Eb[10]? = some (some (.ref rv)) := by rw [← hEb]; rfl
    have c11 : Eb[11]? = some (some (.ref G.length)) := by rw [← hEb]; rfl
    have c13 : Eb[13]? = some (some (ddD f)) := by rw [← hEb]; rfl
    have c14 : Eb[14]? = some (some (.int (sumD tail))) := by rw [← hEb]; rfl
    have nE : (isDrop f && tail.isEmpty) = false → eB Γ xs (.cons (.ifS (.cmp .ne (.ix (.var 10) (.var 8)) (.bin .mod (.bin .add (.ifE (.cmp .eq (.ix (.var 13) (.int 0)) (.str "put")) (.ix (.var 13) (.int 2)) (.int 0)) (.var 14)) (.int 10000))) (.cons (.ret (.bl false)) .nil) .nil) .nil) Eb G5 = .nx Eb G5 := fun hno => by
      rw [hno, if_neg Bool.false_ne_true] at hlast
      have l1 : (eP Γ (.ix (.var 10) (.var 8))).1 Eb G5 = .ok (.int ((baseV f + sumD tail) % 10000)) G5 := by
        rw [ev_ix (ev_var c10) (ev_var c8)]
        unfold dIx
        simp only [hrv5, keyD, get_kv, hlast]
        rfl
      have l2 : (eP Γ (.ifE (.cmp .eq (.ix (.var 13) (.int 0)) (.str "put")) (.ix (.var 13) (.int 2)) (.int 0))).1 Eb G5 = .ok (.int (baseV f)) G5 := by
        have t1 : (eP Γ (.cmp .eq (.ix (.var 13) (.int 0)) (.str "put"))).2 Eb G5 = .ok (isPut f) G5 := ev_cmpT (o := .eq) ((ev_ix (ev_var c13) ev_int).trans (ix0 f)) (d1 := .str "put") (G2 := G5) (by simp) (is_put f)
        rw [eP]
        simp only [mIf]
        rw [t1]
        simp only [Mw.R.bind_ok]
        cases hp : isPut f with
        | true =>
          rw [if_pos rfl, ev_ix (ev_var c13) ev_int, ix2 (.inr hp)]
          cases f <;> first | rfl | cases hp
        | false =>
          rw [if_neg Bool.false_ne_true, ev_int]
          cases f <;> first | rfl | cases hp
      have l3 : (eP Γ (.bin .mod (.bin .add (.ifE (.cmp .eq (.ix (.var 13) (.int 0)) (.str "put")) (.ix (.var 13) (.int 2)) (.int 0)) (.var 14)) (.int 10000))).1 Eb G5 = .ok (.int ((baseV f + sumD tail) % 10000)) G5 := by
        have q : dMod (.int (baseV f + sumD tail)) (.int 10000) G5 = .ok (.int ((baseV f + sumD tail) % 10000)) G5 := mod_int (by decide)
        exact ev_bin2 (ev_bin2 l2 (ev_var c14) rfl) ev_int q
      have q : notR dEq (.int ((baseV f + sumD tail) % 10000)) (.int ((baseV f + sumD tail) % 10000)) G5 = .ok false G5 := by
        unfold notR
        rw [Mm.eq_int]
        simp
      exact eB1 (if_no (ev_cmpT (o := .ne) l1 l3 q))
    have cA : (eP Γ (.cmp .eq (.ix (.var 13) (.int 0)) (.str "drop"))).2 Eb G5 = .ok (isDrop f) G5 := ev_cmpT (o := .eq) ((ev_ix (ev_var c13) ev_int).trans (ix0 f)) (d1 := .str "drop") (G2 := G5) (by simp) (is_drop f)
    have ln : (eP Γ (.bin .sub (.blt .len (.var 11) .nil) (.int 1))).1 Eb G5 = .ok (.int ((mine.length : Int) - 1)) G5 := by
      have fl : fLen [.ref G.length] G5 = .ok (.int (mine.length : Int)) G5 := by
        show dLen (.ref G.length) G5 = _
        rw [len_lst g11e, List.length_map]
      exact ev_bin2 ((ev_blt (ev_var c11)).trans fl) ev_int rfl
    have qB : dEq (.int (pre.length : Int)) (.int ((mine.length : Int) - 1)) G5 = .ok tail.isEmpty G5 := by
      rw [Mm.eq_int]
      congr 1
      have : mine.length = pre.length + (tail.length + 1) := by rw [em]; simp
      rw [this]
      cases tail with
      | nil => simp
      | cons a b =>
        rw [show (a :: b).isEmpty = false from rfl, decide_eq_false_iff_not, List.length_cons]
        omega
    have cB : (eP Γ (.cmp .eq (.ix (.var 12) (.neg (.int 1))) (.bin .sub (.blt .len (.var 11) .nil) (.int 1)))).2 Eb G5 = .ok tail.isEmpty G5 := ev_cmpT (o := .eq) lx5 ln qB
    have b2 : eS Γ xs (.ifS (.andE (.cons (.cmp .eq (.ix (.var 13) (.int 0)) (.str "drop")) (.cons (.cmp .eq (.ix (.var 12) (.neg (.int 1))) (.bin .sub (.blt .len (.var 11) .nil) (.int 1))) .nil))) (.cons (.ifS (.cmp .inC (.var 8) (.var 10)) (.cons (.ret (.bl false)) .nil) .nil) .nil) (.cons (.ifS (.cmp .ne (.ix (.var 10) (.var 8)) (.bin .mod (.bin .add (.ifE (.cmp .eq (.ix (.var 13) (.int 0)) (.str "put")) (.ix (.var 13) (.int 2)) (.int 0)) (.var 14)) (.int 10000))) (.cons (.ret (.bl false)) .nil) .nil) .nil)) Eb G5 = .nx Eb G5 := by
      cases hd : isDrop f with
      | false =>
        rw [hd] at cA
        rw [if_else (and_no cA)]
        exact nE (by rw [hd]; rfl)
      | true =>
        rw [hd] at cA
        cases hE : tail.isEmpty with
        | false =>
          rw [hE] at cB
          rw [if_else ((and_yes cA).trans (and_one.trans cB))]
          exact nE (by rw [hd, hE]; rfl)
        | true =>
          rw [hE] at cB
          rw [if_yes ((and_yes cA).trans (and_one.trans cB))]
          rw [hd, hE] at hlast
          have hl2 : getL (ds.foldl afterL L) k = none := hlast.trans (if_pos rfl)
          have q : dIn (.str k) (.ref rv) G5 = .ok false G5 := by
            unfold dIn
            simp only [hrv5, keyD, get_kv, hl2]
            rfl
          exact eB1 (if_no (ev_cmpT (o := .inC) (ev_var c8) (ev_var c10) q))
    refine ⟨some (.ref G.length), some (.ref G1.length), some (ddD f), some (.int (sumD tail)), J, ?_⟩
    rw [← hJ, hEb]
    refine eB1 (st := nthS body35 2) ?_
    refine (if_yes cnd').trans ?_
    rw [eBc b0, eBc b1, hEb]
    exact eB1 b2
theorem ieA_ok (h7 : Kn Γ 7 2 C__law_cell) {k : Nat} (h0 : e[0]? = some (some (.scr ns))) (h15 : e[15]? = some (some (.int (k : Int)))) : (eP Γ (.call 7 (.cons (.var 0) (.cons (.bin .add (.int 1) (.var 15)) .nil)))).1 e G = .ok (.int (cell ns (1 + (k : Int)))) G :=
  ev_call2 h7.1 (ev_var h0) (ev_bin2 ev_int (ev_var h15) rfl) (by rw [h7.2]; exact cell_eq (by omega))
theorem ieB_ok (h7 : Kn Γ 7 2 C__law_cell) {k : Nat} (h0 : e[0]? = some (some (.scr ns))) (h15 : e[15]? = some (some (.int (k : Int)))) : (eP Γ (.bin .add (.call 7 (.cons (.var 0) (.cons (.int 7) .nil))) (.call 7 (.cons (.var 0) (.cons (.bin .add (.int 9) (.var 15)) .nil))))).1 e G = .ok (.int (cell ns 7 + cell ns (9 + (k : Int)))) G :=
  ev_bin2 (ev_call2 h7.1 (ev_var h0) ev_int (by rw [h7.2]; exact cell_eq (by omega))) (ev_call2 h7.1 (ev_var h0) (ev_bin2 ev_int (ev_var h15) rfl) (by rw [h7.2]; exact cell_eq (by omega))) rfl
theorem T_law_k35 (h6 : Kn Γ 6 2 C_done) (h7 : Kn Γ 7 2 C__law_cell) (h8 : Kn Γ 8 2 C__law_seed) (h10 : Kn Γ 10 1 C__law_deed) (h11 : Kn Γ 11 2 C__law_after) (h36 : Kn Γ 36 3 C__law_mix) :
    ∀ ns : List Int, ns.length ≤ 63 → ∃ G, fnRun N_law_k35.length (eB Γ xs b_law_k35) [.scr ns] [] = .ok (.bl true) G := by
  intro ns _
  refine law_ret ?_
  generalize hn1 : (cell ns 0 % 6).toNat = n1
  generalize hn2 : (cell ns 6 % 11).toNat = n2
  have m1 : cell ns 0 % 6 = (n1 : Int) := by omega
  have m2 : cell ns 6 % 11 = (n2 : Int) := by omega
  have b1 : n1 < 6 := by omega
  have b2 : n2 < 11 := by omega
  -- the statements
  rw [show b_law_k35 = .cons (nthS b_law_k35 0) (.cons (nthS b_law_k35 1) (.cons (nthS b_law_k35 2) (.cons (nthS b_law_k35 3) (.cons (nthS b_law_k35 4) (.cons (nthS b_law_k35 5) (.cons (nthS b_law_k35 6) (.cons (nthS b_law_k35 7) (.cons (nthS b_law_k35 8) (.cons (nthS b_law_k35 9) (.cons (nthS b_law_k35 10) (.cons (nthS b_law_k35 11) (.cons (nthS b_law_k35 12) (.cons (nthS b_law_k35 13) (.cons (nthS b_law_k35 14) .nil)))))))))))))) from rfl]
  show ∃ G', eB Γ xs _ (E35 ns none none none none none none none none none none none none none none) [] = _
  have w15 : ∀ (s1 s2 : Option D) (x : Option D), ((wipeE (E35 ns s1 s2 none none none none none none none none none none none none) [15]).set 15 x)[15]? = some x := fun _ _ _ => rfl
  have w0 : ∀ (s1 s2 : Option D) (x : Option D), ((wipeE (E35 ns s1 s2 none none none none none none none none none none none none) [15]).set 15 x)[0]? = some (some (.scr ns)) := fun _ _ _ => rfl
  -- 0: some
  have hit0 : eI Γ (.range1 (.bin .mod (.call 7 (.cons (.var 0) (.cons (.int 0) .nil))) (.int 6))) (E35 ns none none none none none none none none none none none none none none) [] = .ok ⟨rangeD 0 n1, none⟩ [] := by
    have q : (eP Γ (.bin .mod (.call 7 (.cons (.var 0) (.cons (.int 0) .nil))) (.int 6))).1 (E35 ns none none none none none none none none none none none none none none) [] = .ok (.int (n1 : Int)) [] := by
      have q2 : dMod (.int (cell ns 0)) (.int 6) [] = .ok (.int (n1 : Int)) [] := by rw [mod_int (by decide), m1]
      exact ev_bin2 (o := .mod) (x := .int (cell ns 0)) (G1 := []) (ev_call2 h7.1 (ev_var rfl) ev_int (by rw [h7.2]; exact cell_eq (by omega))) ev_int q2
    have z : (-100000 < (n1 : Int) ∧ (n1 : Int) < 100000) := by omega
    rw [eI]
    simp only [miRange1, maCons, maNil]
    rw [q]
    simp [z]
  obtain ⟨J0, l0⟩ := lc_seeds (Γ := Γ) (G := []) (e := E35 ns none none none none none none none none none none none none none none) h8 h10 (ie := .call 7 (.cons (.var 0) (.cons (.bin .add (.int 1) (.var 15)) .nil))) (fun k => cell ns (1 + k)) hit0 (by omega) (show 15 < 18 by decide) (fun k _ J => ieA_ok h7 (w0 _ _ _) (w15 _ _ _))
  generalize ha1 : (List.range n1).map (fun (k : Nat) => deedN (seedN (cell ns (1 + (k : Int))) k)) = as1 at l0
  have g1 : ∀ a ∈ as1, GoodD a := fun a ha => by
    rw [← ha1] at ha
    obtain ⟨k, _, rfl⟩ := List.mem_map.mp ha
    exact deedN_good _
  have l1 : as1.length < 6 := by rw [← ha1]; simpa using b1
  have gl : GoodL (sortKV (as1.foldl app [])) := (goodL_nil.fold g1).sort
  have sl := sortKV_pw (as1.foldl app [])
  have ll : (sortKV (as1.foldl app [])).length ≤ 5 := by
    rw [(sortKV_perm _).length_eq]
    have := fold_len [] as1
    simp at this
    omega
  have eAft : C__law_after [.tup [], .ref 0] (.lst (as1.map ddD) :: J0) = .ok (tpl (sortKV (as1.foldl app []))) (.lst (as1.map ddD) :: J0) := laft_eq (l := []) (by simp [seqOf]) List.nodup_nil (by simp; omega)
  generalize sortKV (as1.foldl app []) = L at gl sl ll eAft
  have a0 : eS Γ xs (nthS b_law_k35 0) (E35 ns none none none none none none none none none none none none none none) [] = .nx (E35 ns (some (tpl L)) none none none none none none none none none none none none none) (.lst (as1.map ddD) :: J0) :=
    ev_asg (ev_call2 h11.1 (d := .tup []) (G1 := []) (by simp) l0 (by rw [h11.2]; exact eAft)) rfl
  rw [eBc a0]
  generalize O.lst (as1.map ddD) :: J0 = G1
  -- 1: many
  have a1 : eS Γ xs (nthS b_law_k35 1) (E35 ns (some (tpl L)) none none none none none none none none none none none none none) G1 = .nx (E35 ns (some (tpl L)) (some (.int (n2 : Int))) none none none none none none none none none none none none) G1 := by
    have q2 : dMod (.int (cell ns 6)) (.int 11) G1 = .ok (.int (n2 : Int)) G1 := by rw [mod_int (by decide), m2]
    exact ev_asg (ev_bin2 (o := .mod) (x := .int (cell ns 6)) (G1 := G1) (ev_call2 h7.1 (ev_var rfl) ev_int (by rw [h7.2]; exact cell_eq (by omega))) ev_int q2) rfl
  rw [eBc a1]
  -- 2: deeds
  have hit2 : eI Γ (.range1 (.var 2)) (E35 ns (some (tpl L)) (some (.int (n2 : Int))) none none none none none none none none none none none none) G1 = .ok ⟨rangeD 0 n2, none⟩ G1 := by
    have z : (-100000 < (n2 : Int) ∧ (n2 : Int) < 100000) := by omega
    rw [eI]
    simp only [miRange1, maCons, maNil]
    rw [ev_var rfl]
    simp [z]
  obtain ⟨J2, l2⟩ := lc_seeds (Γ := Γ) (G := G1) (e := E35 ns (some (tpl L)) (some (.int (n2 : Int))) none none none none none none none none none none none none) h8 h10 (ie := .bin .add (.call 7 (.cons (.var 0) (.cons (.int 7) .nil))) (.call 7 (.cons (.var 0) (.cons (.bin .add (.int 9) (.var 15)) .nil)))) (fun k => cell ns 7 + cell ns (9 + k)) hit2 (by omega) (show 15 < 18 by decide) (fun k _ J => ieB_ok h7 (w0 _ _ _) (w15 _ _ _))
  generalize hds : (List.range n2).map (fun (k : Nat) => deedN (seedN (cell ns 7 + cell ns (9 + (k : Int))) k)) = ds at l2
  have gd : ∀ d ∈ ds, GoodD d := fun a ha => by
    rw [← hds] at ha
    obtain ⟨k, _, rfl⟩ := List.mem_map.mp ha
    exact deedN_good _
  have dl2 : ds.length = n2 := by rw [← hds]; simp
  have dl : ds.length ≤ 10 := by omega
  have a2 : eS Γ xs (nthS b_law_k35 2) (E35 ns (some (tpl L)) (some (.int (n2 : Int))) none none none none none none none none none none none none) G1 = .nx (E35 ns (some (tpl L)) (some (.int (n2 : Int))) (some (tdd ds)) none none none none none none none none none none none) (G1 ++ .lst (ds.map ddD) :: J2) := ev_asg (tup_at l2) rfl
  rw [eBc a2]
  generalize G1 ++ O.lst (ds.map ddD) :: J2 = G2
  -- 3: found
  have a3 : eS Γ xs (nthS b_law_k35 3) (E35 ns (some (tpl L)) (some (.int (n2 : Int))) (some (tdd ds)) none none none none none none none none none none none) G2 = .nx (E35 ns (some (tpl L)) (some (.int (n2 : Int))) (some (tdd ds)) (some (tpl (ds.foldl afterL L))) none none none none none none none none none none) G2 :=
    ev_asg (ev_call2 h6.1 (ev_var rfl) (ev_var rfl) (by rw [h6.2]; exact dn gl sl (by omega) gd (by omega) G2)) rfl
  rw [eBc a3]
  -- 4: at
  obtain ⟨N, hN, e36⟩ : ∃ N : Nat, N ≤ ds.length ∧ C__law_mix [.int (cell ns 8), .int 9949, .int ((n2 : Int) + 1)] G2 = .ok (.int (N : Int)) G2 := by
    have c1 : 0 ≤ mixN (cell ns 8) 9949 ((n2 : Int) + 1) := Int.emod_nonneg _ (by omega)
    have c2 : mixN (cell ns 8) 9949 ((n2 : Int) + 1) < (n2 : Int) + 1 := Int.emod_lt_of_pos _ (by omega)
    refine ⟨(mixN (cell ns 8) 9949 ((n2 : Int) + 1)).toNat, by omega, ?_⟩
    rw [Int.toNat_of_nonneg c1]
    exact if_pos ⟨by omega, by omega, by omega⟩
  have a4 : eS Γ xs (nthS b_law_k35 4) (E35 ns (some (tpl L)) (some (.int (n2 : Int))) (some (tdd ds)) (some (tpl (ds.foldl afterL L))) none none none none none none none none none none) G2 = .nx (E35 ns (some (tpl L)) (some (.int (n2 : Int))) (some (tdd ds)) (some (tpl (ds.foldl afterL L))) (some (.int (N : Int))) none none none none none none none none none) G2 := by
    refine ev_asg ?_ rfl
    have q8 : (eP Γ (.call 7 (.cons (.var 0) (.cons (.int 8) .nil)))).1 (E35 ns (some (tpl L)) (some (.int (n2 : Int))) (some (tdd ds)) (some (tpl (ds.foldl afterL L))) none none none none none none none none none none) G2 = .ok (.int (cell ns 8)) G2 := ev_call2 h7.1 (ev_var rfl) ev_int (by rw [h7.2]; exact cell_eq (by omega))
    have q1 : (eP Γ (.bin .add (.var 2) (.int 1))).1 (E35 ns (some (tpl L)) (some (.int (n2 : Int))) (some (tdd ds)) (some (tpl (ds.foldl afterL L))) none none none none none none none none none none) G2 = .ok (.int ((n2 : Int) + 1)) G2 := ev_bin2 (ev_var rfl) ev_int rfl
    rw [eP]
    simp only [pl, mCallF, eA, maCons, maNil]
    rw [q8]
    simp only [Mw.R.bind_ok, ev_int]
    rw [q1]
    simp [h36.1, h36.2, e36]
  rw [eBc a4]
  -- 5
  rw [eBc (k35_two h6 gl sl ll gd dl hN rfl rfl rfl rfl)]
  -- 6: keys
  obtain ⟨J6, e6⟩ := k35_keys (Γ := Γ) (G := G2) (e := E35 ns (some (tpl L)) (some (.int (n2 : Int))) (some (tdd ds)) (some (tpl (ds.foldl afterL L))) (some (.int (N : Int))) none none none none none none none none none) gd dl rfl rfl
  have a6 : eS Γ xs (nthS b_law_k35 6) (E35 ns (some (tpl L)) (some (.int (n2 : Int))) (some (tdd ds)) (some (tpl (ds.foldl afterL L))) (some (.int (N : Int))) none none none none none none none none none) G2 = .nx (E35 ns (some (tpl L)) (some (.int (n2 : Int))) (some (tdd ds)) (some (tpl (ds.foldl afterL L))) (some (.int (N : Int))) (some (.ref (G2 ++ J6).length)) none none none none none none none none) (G2 ++ J6 ++ [.lst ((keysD ds).map D.str)]) := ev_asg e6 rfl
  rw [eBc a6]
  have hr : (G2 ++ J6 ++ [O.lst ((keysD ds).map D.str)])[(G2 ++ J6).length]? = some (.lst ((keysD ds).map D.str)) := by simp
  generalize (G2 ++ J6).length = r at hr
  generalize G2 ++ J6 ++ [O.lst ((keysD ds).map D.str)] = G3 at hr
  -- 7, 8: turned
  have a7 : eS Γ xs (nthS b_law_k35 7) (E35 ns (some (tpl L)) (some (.int (n2 : Int))) (some (tdd ds)) (some (tpl (ds.foldl afterL L))) (some (.int (N : Int))) (some (.ref r)) none none none none none none none none) G3 = .nx (E35 ns (some (tpl L)) (some (.int (n2 : Int))) (some (tdd ds)) (some (tpl (ds.foldl afterL L))) (some (.int (N : Int))) (some (.ref r)) (some (tdd [])) none none none none none none none) G3 := ev_asg (d := tdd []) (by simp [tdd]) rfl
  rw [eBc a7]
  obtain ⟨v8, J8, a8⟩ := k35_for (Γ := Γ) (xs := xs) (ns := ns) (s1 := some (tpl L)) (s2 := some (.int (n2 : Int))) (s4 := some (tpl (ds.foldl afterL L))) (s5 := some (.int (N : Int))) gd dl hr
  rw [eBc a8]
  have hr8 := at_more (J := J8) hr
  generalize G3 ++ J8 = G4 at hr8
  -- 9
  rw [eBc (k35_turn h6 gl sl ll gd dl rfl rfl rfl)]
  -- 10, 11: adds
  obtain ⟨J10, e10⟩ := k35_add (Γ := Γ) (G := G4) (e := E35 ns (some (tpl L)) (some (.int (n2 : Int))) (some (tdd ds)) (some (tpl (ds.foldl afterL L))) (some (.int (N : Int))) (some (.ref r)) (some (tdd (turnD (keysD ds).reverse ds))) v8 none none none none none none) dl rfl rfl
  have a10 : eS Γ xs (nthS b_law_k35 10) (E35 ns (some (tpl L)) (some (.int (n2 : Int))) (some (tdd ds)) (some (tpl (ds.foldl afterL L))) (some (.int (N : Int))) (some (.ref r)) (some (tdd (turnD (keysD ds).reverse ds))) v8 none none none none none none) G4 = .nx (E35 ns (some (tpl L)) (some (.int (n2 : Int))) (some (tdd ds)) (some (tpl (ds.foldl afterL L))) (some (.int (N : Int))) (some (.ref r)) (some (tdd (turnD (keysD ds).reverse ds))) v8 (some (tdd (ds.filter isAdd))) none none none none none) (G4 ++ J10) := ev_asg e10 rfl
  rw [eBc a10, eBc (k35_adds h6 gl sl ll gd dl rfl rfl)]
  have hr10 := at_more (J := J10) hr8
  generalize G4 ++ J10 = G5 at hr10
  -- 12: values
  obtain ⟨gF, sF, lF⟩ := fold_good gl sl gd
  obtain ⟨J12, e12⟩ := k35_vals (Γ := Γ) (G := G5) (e := E35 ns (some (tpl L)) (some (.int (n2 : Int))) (some (tdd ds)) (some (tpl (ds.foldl afterL L))) (some (.int (N : Int))) (some (.ref r)) (some (tdd (turnD (keysD ds).reverse ds))) v8 (some (tdd (ds.filter isAdd))) none none none none none) gF (by omega) rfl rfl
  have a12 : eS Γ xs (nthS b_law_k35 12) (E35 ns (some (tpl L)) (some (.int (n2 : Int))) (some (tdd ds)) (some (tpl (ds.foldl afterL L))) (some (.int (N : Int))) (some (.ref r)) (some (tdd (turnD (keysD ds).reverse ds))) v8 (some (tdd (ds.filter isAdd))) none none none none none) G5 = .nx (E35 ns (some (tpl L)) (some (.int (n2 : Int))) (some (tdd ds)) (some (tpl (ds.foldl afterL L))) (some (.int (N : Int))) (some (.ref r)) (some (tdd (turnD (keysD ds).reverse ds))) v8 (some (tdd (ds.filter isAdd))) (some (.ref (G5 ++ J12).length)) none none none none) (G5 ++ J12 ++ [.dct ((ds.foldl afterL L).map kvD)]) := ev_asg e12 rfl
  rw [eBc a12]
  have hr12 : (G5 ++ J12 ++ [O.dct ((ds.foldl afterL L).map kvD)])[r]? = some (.lst ((keysD ds).map D.str)) := at_more (at_more hr10)
  have hv : (G5 ++ J12 ++ [O.dct ((ds.foldl afterL L).map kvD)])[(G5 ++ J12).length]? = some (.dct ((ds.foldl afterL L).map kvD)) := by simp
  generalize (G5 ++ J12).length = rv at hv
  generalize G5 ++ J12 ++ [O.dct ((ds.foldl afterL L).map kvD)] = G6 at hr12 hv
  -- 13
  have hit : eI Γ (.val (.var 6)) (E35 ns (some (tpl L)) (some (.int (n2 : Int))) (some (tdd ds)) (some (tpl (ds.foldl afterL L))) (some (.int (N : Int))) (some (.ref r)) (some (tdd (turnD (keysD ds).reverse ds))) v8 (some (tdd (ds.filter isAdd))) (some (.ref rv)) none none none none) G6 = .ok ⟨(keysD ds).map D.str, some (.lst r)⟩ G6 := by
    rw [eI]
    simp only [miVal]
    rw [ev_var rfl]
    simp only [Mw.R.bind_ok]
    unfold dSrc
    simp only [hr12]
  obtain ⟨e', G', f13, w8, w11, w12, w13, w14, J, rfl, rfl⟩ := for_any (t := .nm 8) (it := eI Γ (.val (.var 6))) (B := eB Γ xs body35) (e := E35 ns (some (tpl L)) (some (.int (n2 : Int))) (some (tdd ds)) (some (tpl (ds.foldl afterL L))) (some (.int (N : Int))) (some (.ref r)) (some (tdd (turnD (keysD ds).reverse ds))) v8 (some (tdd (ds.filter isAdd))) (some (.ref rv)) none none none none) (G0 := G6) (G := G6) (src := ⟨(keysD ds).map D.str, some (.lst r)⟩)
    (fun k e G' => ∃ w8 w11 w12 w13 w14 J, e = E35 ns (some (tpl L)) (some (.int (n2 : Int))) (some (tdd ds)) (some (tpl (ds.foldl afterL L))) (some (.int (N : Int))) (some (.ref r)) (some (tdd (turnD (keysD ds).reverse ds))) w8 (some (tdd (ds.filter isAdd))) (some (.ref rv)) w11 w12 w13 w14 ∧ G' = G6 ++ J) hit (fun k e G' hP => by
      obtain ⟨_, _, _, _, _, J, _, rfl⟩ := hP
      exact still_lst (at_more hr12)) ⟨v8, none, none, none, none, [], rfl, by simp⟩ (fun k d e G' hd hP => by
      obtain ⟨w8, w11, w12, w13, w14, J, rfl, rfl⟩ := hP
      have hd' : ((keysD ds).map D.str)[k]? = some d := hd
      rw [List.getElem?_map] at hd'
      cases hx : (keysD ds)[k]? with
      | none => rw [hx] at hd'; cases hd'
      | some x =>
        rw [hx] at hd'
        have hd2 : D.str x = d := Option.some.inj hd'
        subst hd2
        obtain ⟨y11, y12, y13, y14, J2, q⟩ := k35_key (Γ := Γ) (xs := xs) (ns := ns) (G := G6 ++ J) (s1 := some (tpl L)) (s2 := some (.int (n2 : Int))) (s4 := some (tpl (ds.foldl afterL L))) (s5 := some (.int (N : Int))) (s6 := some (.ref r)) (s7 := some (tdd (turnD (keysD ds).reverse ds))) (s9 := some (tdd (ds.filter isAdd))) (v11 := w11) (v12 := w12) (v13 := w13) (v14 := w14) gl sl gd dl (keys_good gd (List.mem_of_getElem? hx)) (at_more hv)
        exact ⟨_, _, _, rfl, .inl q, some (.str x), y11, y12, y13, y14, J ++ J2, rfl, List.append_assoc _ _ _⟩)
  have f13' : eS Γ xs (nthS b_law_k35 13) (E35 ns (some (tpl L)) (some (.int (n2 : Int))) (some (tdd ds)) (some (tpl (ds.foldl afterL L))) (some (.int (N : Int))) (some (.ref r)) (some (tdd (turnD (keysD ds).reverse ds))) v8 (some (tdd (ds.filter isAdd))) (some (.ref rv)) none none none none) G6 = _ := f13
  rw [eBc f13']
  exact ⟨_, rfl⟩
end
end Mm
namespace HT
open PySem L2 Mw Mm
open PyProof.Rows hiding St
def L_0 : Fl := []
noncomputable def L_1 : Fl := (0, ⟨false, "is_within", ["thing", "low", "high"], C_is_within⟩) :: L_0
noncomputable def L_2 : Fl := (1, ⟨false, "is_key", ["thing"], C_is_key⟩) :: L_1
noncomputable def L_3 : Fl := (2, ⟨false, "is_deed", ["thing"], C_is_deed⟩) :: L_2
noncomputable def L_4 : Fl := (3, ⟨false, "are_things", ["thing"], C_are_things⟩) :: L_3
noncomputable def L_5 : Fl := (4, ⟨false, "after", ["things", "deed"], C_after⟩) :: L_4
noncomputable def L_6 : Fl := (5, ⟨false, "after_all", ["things", "deeds"], C_after_all⟩) :: L_5
noncomputable def L_7 : Fl := (6, ⟨false, "done", ["things", "deeds"], C_done⟩) :: L_6
noncomputable def L_8 : Fl := (7, ⟨false, "_law_cell", ["script", "k"], C__law_cell⟩) :: L_7
noncomputable def L_9 : Fl := (36, ⟨false, "_law_mix", ["cell", "prime", "many"], C__law_mix⟩) :: L_8
noncomputable def L_10 : Fl := (8, ⟨false, "_law_seed", ["seed", "k"], C__law_seed⟩) :: L_9
noncomputable def L_11 : Fl := (9, ⟨false, "_law_pick", ["seed", "many"], C__law_pick⟩) :: L_10
noncomputable def L_12 : Fl := (10, ⟨false, "_law_deed", ["seed"], C__law_deed⟩) :: L_11
noncomputable def L_13 : Fl := (11, ⟨false, "_law_after", ["some", "deeds"], C__law_after⟩) :: L_12
end HT
namespace HT
open PySem L2 Mw Mm
open PyProof.Rows hiding St
theorem chk_0 : (C8.scC N_is_within ["thing", "low", "high"] (defScope s_is_within) && mtB (ctOf L_0 S) N_is_within b_is_within (defScope s_is_within) (defBody s_is_within)) = true := by decide +kernel
theorem chk_1 : (C8.scC N_is_key ["thing"] (defScope s_is_key) && mtB (ctOf L_1 S) N_is_key b_is_key (defScope s_is_key) (defBody s_is_key)) = true := by decide +kernel
theorem chk_2 : (C8.scC N_is_deed ["thing"] (defScope s_is_deed) && mtB (ctOf L_2 S) N_is_deed b_is_deed (defScope s_is_deed) (defBody s_is_deed)) = true := by decide +kernel
theorem chk_3 : (C8.scC N_are_things ["thing"] (defScope s_are_things) && mtB (ctOf L_3 S) N_are_things b_are_things (defScope s_are_things) (defBody s_are_things)) = true := by decide +kernel
theorem chk_4 : (C8.scC N_after ["things", "deed"] (defScope s_after) && mtB (ctOf L_4 S) N_after b_after (defScope s_after) (defBody s_after)) = true := by decide +kernel
theorem chk_5 : (C8.scC N_after_all ["things", "deeds"] (defScope s_after_all) && mtB (ctOf L_5 S) N_after_all b_after_all (defScope s_after_all) (defBody s_after_all)) = true := by decide +kernel
theorem chk_6 : (C8.scC N_done ["things", "deeds"] (defScope s_done) && mtB (ctOf L_6 S) N_done b_done (defScope s_done) (defBody s_done)) = true := by decide +kernel
theorem chk_7 : (C8.scC N__law_cell ["script", "k"] (defScope s__law_cell) && mtB (ctOf L_7 S) N__law_cell b__law_cell (defScope s__law_cell) (defBody s__law_cell)) = true := by decide +kernel
theorem chk_8 : (C8.scC N__law_mix ["cell", "prime", "many"] (defScope s__law_mix) && mtB (ctOf L_8 S) N__law_mix b__law_mix (defScope s__law_mix) (defBody s__law_mix)) = true := by decide +kernel
theorem chk_9 : (C8.scC N__law_seed ["seed", "k"] (defScope s__law_seed) && mtB (ctOf L_9 S) N__law_seed b__law_seed (defScope s__law_seed) (defBody s__law_seed)) = true := by decide +kernel
theorem chk_10 : (C8.scC N__law_pick ["seed", "many"] (defScope s__law_pick) && mtB (ctOf L_10 S) N__law_pick b__law_pick (defScope s__law_pick) (defBody s__law_pick)) = true := by decide +kernel
theorem chk_11 : (C8.scC N__law_deed ["seed"] (defScope s__law_deed) && mtB (ctOf L_11 S) N__law_deed b__law_deed (defScope s__law_deed) (defBody s__law_deed)) = true := by decide +kernel
theorem chk_12 : (C8.scC N__law_after ["some", "deeds"] (defScope s__law_after) && mtB (ctOf L_12 S) N__law_after b__law_after (defScope s__law_after) (defBody s__law_after)) = true := by decide +kernel
theorem chk_13 : (C8.scC N_law_k35 ["script"] (defScope s_law_k35) && mtB (ctOf L_13 S) N_law_k35 b_law_k35 (defScope s_law_k35) (defBody s_law_k35)) = true := by decide +kernel
section
variable {P : Program} {w : World} {K : PySem.W.Frag} {h base : Heap} {mg : Str → Option Value}
theorem wd_0 : WdOk P w K mg base 0 L_0 := WdOk.nil
theorem wd_1 (X : K.In h) (G : h.Ns mainGlobals mg) (c : He.SaysD fa fn K) (tb : Extra S K w mg) : WdOk P w K mg base 1 L_1 := by
  obtain ⟨fd, F⟩ := c.def_ 0 (d := d_is_within) rfl
  exact WdOk.add wd_0 ⟨(fun _ => ⟨_, fd, fa_glo X G c (by decide), F.kp, F.bindsN fun _ _ _ _ _ _ us hl => match us, hl with | [_, _, _], _ => rfl, cleans (fn_ok F chk_0 (fx_of wd_0 (bs_ofT X G c tb))) (K_is_within )⟩), (fun z => nomatch z), (fun z => nomatch z)⟩
theorem wd_2 (X : K.In h) (G : h.Ns mainGlobals mg) (c : He.SaysD fa fn K) (tb : Extra S K w mg) : WdOk P w K mg base 2 L_2 := by
  obtain ⟨fd, F⟩ := c.def_ 1 (d := d_is_key) rfl
  exact WdOk.add (wd_1 X G c tb) ⟨(fun _ => ⟨_, fd, fa_glo X G c (by decide), F.kp, F.bindsN fun _ _ _ _ _ _ us hl => match us, hl with | [_], _ => rfl, cleans (fn_ok F chk_1 (fx_of (wd_1 X G c tb) (bs_ofT X G c tb))) (K_is_key )⟩), (fun z => nomatch z), (fun z => nomatch z)⟩
theorem wd_3 (X : K.In h) (G : h.Ns mainGlobals mg) (c : He.SaysD fa fn K) (tb : Extra S K w mg) : WdOk P w K mg base 3 L_3 := by
  obtain ⟨fd, F⟩ := c.def_ 2 (d := d_is_deed) rfl
  exact WdOk.add (wd_2 X G c tb) ⟨(fun _ => ⟨_, fd, fa_glo X G c (by decide), F.kp, F.bindsN fun _ _ _ _ _ _ us hl => match us, hl with | [_], _ => rfl, cleans (fn_ok F chk_2 (fx_of (wd_2 X G c tb) (bs_ofT X G c tb))) (K_is_deed ⟨rfl, rfl⟩ ⟨rfl, rfl⟩)⟩), (fun z => nomatch z), (fun z => nomatch z)⟩
theorem wd_4 (X : K.In h) (G : h.Ns mainGlobals mg) (c : He.SaysD fa fn K) (tb : Extra S K w mg) : WdOk P w K mg base 4 L_4 := by
  obtain ⟨fd, F⟩ := c.def_ 3 (d := d_are_things) rfl
  exact WdOk.add (wd_3 X G c tb) ⟨(fun _ => ⟨_, fd, fa_glo X G c (by decide), F.kp, F.bindsN fun _ _ _ _ _ _ us hl => match us, hl with | [_], _ => rfl, cleans (fn_ok F chk_3 (fx_of (wd_3 X G c tb) (bs_ofT X G c tb))) (K_are_things ⟨rfl, rfl⟩ ⟨rfl, rfl⟩)⟩), (fun z => nomatch z), (fun z => nomatch z)⟩
theorem wd_5 (X : K.In h) (G : h.Ns mainGlobals mg) (c : He.SaysD fa fn K) (tb : Extra S K w mg) : WdOk P w K mg base 5 L_5 := by
  obtain ⟨fd, F⟩ := c.def_ 4 (d := d_after) rfl
  exact WdOk.add (wd_4 X G c tb) ⟨(fun _ => ⟨_, fd, fa_glo X G c (by decide), F.kp, F.bindsN fun _ _ _ _ _ _ us hl => match us, hl with | [_, _], _ => rfl, cleans (fn_ok F chk_4 (fx_of (wd_4 X G c tb) (bs_ofT X G c tb))) (K_after )⟩), (fun z => nomatch z), (fun z => nomatch z)⟩
theorem wd_6 (X : K.In h) (G : h.Ns mainGlobals mg) (c : He.SaysD fa fn K) (tb : Extra S K w mg) : WdOk P w K mg base 6 L_6 := by
  obtain ⟨fd, F⟩ := c.def_ 5 (d := d_after_all) rfl
  exact WdOk.add (wd_5 X G c tb) ⟨(fun _ => ⟨_, fd, fa_glo X G c (by decide), F.kp, F.bindsN fun _ _ _ _ _ _ us hl => match us, hl with | [_, _], _ => rfl, cleans (fn_ok F chk_5 (fx_of (wd_5 X G c tb) (bs_ofT X G c tb))) (K_after_all ⟨rfl, rfl⟩)⟩), (fun z => nomatch z), (fun z => nomatch z)⟩
theorem wd_7 (X : K.In h) (G : h.Ns mainGlobals mg) (c : He.SaysD fa fn K) (tb : Extra S K w mg) : WdOk P w K mg base 7 L_7 := by
  obtain ⟨fd, F⟩ := c.def_ 6 (d := d_done) rfl
  exact WdOk.add (wd_6 X G c tb) ⟨(fun _ => ⟨_, fd, fa_glo X G c (by decide), F.kp, F.bindsN fun _ _ _ _ _ _ us hl => match us, hl with | [_, _], _ => rfl, cleans (fn_ok F chk_6 (fx_of (wd_6 X G c tb) (bs_ofT X G c tb))) (K_done ⟨rfl, rfl⟩ ⟨rfl, rfl⟩ ⟨rfl, rfl⟩)⟩), (fun z => nomatch z), (fun z => nomatch z)⟩
theorem wd_8 (X : K.In h) (G : h.Ns mainGlobals mg) (c : He.SaysD fa fn K) (tb : Extra S K w mg) : WdOk P w K mg base 8 L_8 := by
  obtain ⟨fd, F⟩ := c.def_ 7 (d := d__law_cell) rfl
  exact WdOk.add (wd_7 X G c tb) ⟨(fun _ => ⟨_, fd, fa_glo X G c (by decide), F.kp, F.bindsN fun _ _ _ _ _ _ us hl => match us, hl with | [_, _], _ => rfl, cleans (fn_ok F chk_7 (fx_of (wd_7 X G c tb) (bs_ofT X G c tb))) (K__law_cell )⟩), (fun z => nomatch z), (fun z => nomatch z)⟩
theorem wd_9 (X : K.In h) (G : h.Ns mainGlobals mg) (c : He.SaysD fa fn K) (tb : Extra S K w mg) : WdOk P w K mg base 9 L_9 := by
  obtain ⟨fd, F⟩ := c.def_ 8 (d := d__law_mix) rfl
  exact WdOk.add (wd_8 X G c tb) ⟨(fun _ => ⟨_, fd, fa_glo X G c (by decide), F.kp, F.bindsN fun _ _ _ _ _ _ us hl => match us, hl with | [_, _, _], _ => rfl, cleans (fn_ok F chk_8 (fx_of (wd_8 X G c tb) (bs_ofT X G c tb))) (K__law_mix )⟩), (fun z => nomatch z), (fun z => nomatch z)⟩
theorem wd_10 (X : K.In h) (G : h.Ns mainGlobals mg) (c : He.SaysD fa fn K) (tb : Extra S K w mg) : WdOk P w K mg base 10 L_10 := by
  obtain ⟨fd, F⟩ := c.def_ 9 (d := d__law_seed) rfl
  exact WdOk.add (wd_9 X G c tb) ⟨(fun _ => ⟨_, fd, fa_glo X G c (by decide), F.kp, F.bindsN fun _ _ _ _ _ _ us hl => match us, hl with | [_, _], _ => rfl, cleans (fn_ok F chk_9 (fx_of (wd_9 X G c tb) (bs_ofT X G c tb))) (K__law_seed )⟩), (fun z => nomatch z), (fun z => nomatch z)⟩
theorem wd_11 (X : K.In h) (G : h.Ns mainGlobals mg) (c : He.SaysD fa fn K) (tb : Extra S K w mg) : WdOk P w K mg base 11 L_11 := by
  obtain ⟨fd, F⟩ := c.def_ 10 (d := d__law_pick) rfl
  exact WdOk.add (wd_10 X G c tb) ⟨(fun _ => ⟨_, fd, fa_glo X G c (by decide), F.kp, F.bindsN fun _ _ _ _ _ _ us hl => match us, hl with | [_, _], _ => rfl, cleans (fn_ok F chk_10 (fx_of (wd_10 X G c tb) (bs_ofT X G c tb))) (K__law_pick )⟩), (fun z => nomatch z), (fun z => nomatch z)⟩
theorem wd_12 (X : K.In h) (G : h.Ns mainGlobals mg) (c : He.SaysD fa fn K) (tb : Extra S K w mg) : WdOk P w K mg base 12 L_12 := by
  obtain ⟨fd, F⟩ := c.def_ 11 (d := d__law_deed) rfl
  exact WdOk.add (wd_11 X G c tb) ⟨(fun _ => ⟨_, fd, fa_glo X G c (by decide), F.kp, F.bindsN fun _ _ _ _ _ _ us hl => match us, hl with | [_], _ => rfl, cleans (fn_ok F chk_11 (fx_of (wd_11 X G c tb) (bs_ofT X G c tb))) (K__law_deed ⟨rfl, rfl⟩)⟩), (fun z => nomatch z), (fun z => nomatch z)⟩
theorem wd_13 (X : K.In h) (G : h.Ns mainGlobals mg) (c : He.SaysD fa fn K) (tb : Extra S K w mg) : WdOk P w K mg base 13 L_13 := by
  obtain ⟨fd, F⟩ := c.def_ 12 (d := d__law_after) rfl
  exact WdOk.add (wd_12 X G c tb) ⟨(fun _ => ⟨_, fd, fa_glo X G c (by decide), F.kp, F.bindsN fun _ _ _ _ _ _ us hl => match us, hl with | [_, _], _ => rfl, cleans (fn_ok F chk_12 (fx_of (wd_12 X G c tb) (bs_ofT X G c tb))) (K__law_after )⟩), (fun z => nomatch z), (fun z => nomatch z)⟩
noncomputable abbrev F_law : FM := fnRun N_law_k35.length (eB (fnsOf L_13) S.xs b_law_k35)
theorem facts {f : Addr} (X : K.In h) (G : h.Ns mainGlobals mg) (hfa : mg ("law" : Str) = some (.ref f)) (c : He.SaysD fa fn K) (tb : Extra S K w mg) :
    ∃ fd : FuncData, (∀ (s : Shared) (v : Value), BindsTo s fd ⟨[v], []⟩ [("script", v)]) ∧ ∀ base : Heap, K.In base → base.Ns mainGlobals mg → FnOk P w K mg base (L2.CX P w) 14 f fd ["script"] (spM K 1 F_law) := by
  obtain ⟨fd, F⟩ := c.def_ 13 (d := d_law_k35) rfl
  have e := hfa.symm.trans (fa_glo X G c (x := "law") (by decide))
  cases e
  have b := FunD.bindsA (ps := ["script"]) F fun _ _ _ _ _ _ us hl => match us, hl with | [_], _ => rfl
  exact ⟨fd, fun s v => b s [v] rfl, fun base _ _ => fn_ok F chk_13 (fx_of (wd_13 X G c tb) (bs_ofT X G c tb))⟩
end
theorem law_true : ∀ ns : List Int, ns.length ≤ 63 → ∃ G, F_law [.scr ns] [] = .ok (.bl true) G := T_law_k35 ⟨rfl, rfl⟩ ⟨rfl, rfl⟩ ⟨rfl, rfl⟩ ⟨rfl, rfl⟩ ⟨rfl, rfl⟩ ⟨rfl, rfl⟩
end HT
open PySem PySem.W PySem.Calls PyProof.Rows
set_option maxHeartbeats 0 in
theorem PySem.Challenge.cw_copyrows_k35_whole_deeds_holds : PySem.Challenge.rw_copyrows_k35_whole_deeds.Holds := by
  w_on; o_law
  refine HandSHeadRun.head_any (r := OpenLaw.row PySem.Challenge.rw_copyrows_k35_whole_deeds) (q := view (OpenLaw.row PySem.Challenge.rw_copyrows_k35_whole_deeds).prog [21]) (H := HT.hk) (ob := HT.ob) (M := 60000) (loose := HT.loose) (d := HandSHeadRun.topDef (OpenLaw.row PySem.Challenge.rw_copyrows_k35_whole_deeds).prog 21) (kwd := []) HT.ob_eq
    (by kernel_rfl) (fun s => by kernel_rfl) HT.run (by kernel_rfl) (by kernel_rfl) (by kernel_rfl) (by rfl) (by first | assumption | decide +kernel) (by decide +kernel) ⟨rfl, rfl, rfl, rfl, rfl, by decide +kernel⟩ ?hw ?hc
  case hw => w_witness2
  case hc =>
    refine Mw.walk_W (l := PySem.Challenge.rw_copyrows_k35_whole_deeds) (n := 63) (k := 14) (x := "script") (CX := L2.CX (PySem.Challenge.rw_copyrows_k35_whole_deeds).prog) rfl (by decide) (by kernel_rfl) ⟨rfl, by decide, by decide⟩ ?F ?X
    case X => exact fun w H s e s' z => Mw.noCX H s e s' z
    case F =>
      intro w mg fa h Y G hmg0
      obtain ⟨K, KX, c⟩ := Y
      have hmg : mg ("law" : PySem.Str) = some (.ref fa) := by
        have e : (HandSHeadRun.topDef (OpenLaw.row PySem.Challenge.rw_copyrows_k35_whole_deeds).prog 21).name = ("law" : PySem.Str) := by kernel_rfl
        rw [← e]
        exact hmg0
      obtain ⟨fd, hb, hF⟩ := HT.facts (P := (PySem.Challenge.rw_copyrows_k35_whole_deeds).prog) (w := w) KX G hmg c ⟨(fun _ _ h => nomatch h), (fun z => absurd z (by decide))⟩
      exact ⟨K, fd, Mw.spM K 1 HT.F_law, KX, hb, fun H a ns hl ho hS => Mw.law_sp (n := 63) HT.law_true H a ns hl ho hS, hF⟩
