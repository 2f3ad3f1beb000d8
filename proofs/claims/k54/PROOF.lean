import PyProof.Rows.All
import Wide.All
import OpenK.AllK
import Wide.FinOn
import HandS.ForMost
import HandS.Wide
import HandS.Walk
import HandS.Flow
import HandS.IsInst
import HandS.Zip
import HandS.HeadHook1
import HandS.WideBits
import HandS.Defaults
import HandS.Deep
import HandS.HeadHook2
import HandS.TupAny
import HandS.Codes
import HandS.Style
import KE.KUnpackStar
import HandS.Sort
import KE.KRevSl
import HandS.Exc
import HandS.ExcOwn
import HandS.ExcIs
import HandS.RaiseMore
import PyProof.ExcBaseAll.ValueError
import PyProof.ExcBaseAll.ZeroDivisionError
import PyProof.ExcBaseAll.IndexError
import HandS.Head0
import HandS.Head1
import HandS.Head2
import HandS.HeadEnd
import PySem.Challenge.RW_toolroad_k54_joint_caps
set_option Elab.async false
set_option linter.all false
set_option autoImplicit false
set_option maxRecDepth 100000
set_option maxHeartbeats 0
set_option synthInstance.maxHeartbeats 0
set_option synthInstance.maxSize 100000
/-! DL: readings by data: shared data (Dp over a shared heap) and owned things (lists, lists of lists, objects), each with its footprint. -/
namespace DL
open PySem PySem.Spec L2
abbrev Fg := PySem.W.Frag
/-! ### data: as the library's, and instances, dicts, defs -/
def insD (C : Str) (xs : List Str) (ds : List PyData) : PyData := .dict ((.none, .str C) :: (xs.map PyData.str).zip ds)
def keyD : Key → PyData
  | .inl i => .int i
  | .inr x => .str x
def dctD (ks : List Key) (ds : List PyData) : PyData := .dict ((.bool false, .none) :: (ks.map keyD).zip ds)
/-- the built-in types that are asked for by isinstance -/
def sixT : List String := ["NoneType", "bool", "int", "str", "list", "tuple"]
/-- an own class of plain instances -/
structure InsOk (K : Fg) (C : Str) : Prop where
  cl : Cls K (He.ga K C)
  ha : PySem.W.findIn K (.ref (He.ga K C)) "__class__" = some (some (.builtin "object.__class__"))
  hn : PySem.W.specialIn K (.builtin "object.__class__") "__get__" = some (some (.builtin "getset_descriptor.__get__"))
  tk : PySem.W.takesIn K (.builtin "object.__class__") = some true
  hm : PySem.W.mroIn K (He.ga K C) (.type "object") = some true
  no : ∀ T ∈ sixT, PySem.W.kitOne K (.ref (He.ga K C)) (.type T) = some false
mutual
inductive Dp (K : Fg) (H : Hp) : V → PyData → Prop
  | non : Dp K H .non .none
  | bl (b : Bool) : Dp K H (.bl b) (.bool b)
  | int (i : Int) : Dp K H (.int i) (.int i)
  | str (x : Str) : Dp K H (.str x) (.str x)
  | lst {a : Addr} {xs : List V} {ds : List PyData} : SqL K H a xs → DpAll K H xs ds → Dp K H (.ref a) (.list ds)
  | tup {a : Addr} {xs : List V} {ds : List PyData} : SqT K H a xs → DpAll K H xs ds → Dp K H (.ref a) (.tuple ds)
  | ins {a dx : Addr} {C : Str} {xs : List Str} {vs : List V} {ds : List PyData} : InsOk K C → H a = some (.ins (He.ga K C) dx (xs.zip vs)) → H dx = some (.own a) → xs.length = vs.length → DpAll K H vs ds → Dp K H (.ref a) (insD C xs ds)
  | dct {a : Addr} {ks : List Key} {vs : List V} {ds : List PyData} : H a = some (.dK (ks.zip vs)) → ks.length = vs.length → DpAll K H vs ds → Dp K H (.ref a) (dctD ks ds)
inductive DpAll (K : Fg) (H : Hp) : List V → List PyData → Prop
  | nil : DpAll K H [] []
  | cons {v : V} {vs : List V} {d : PyData} {ds : List PyData} : Dp K H v d → DpAll K H vs ds → DpAll K H (v :: vs) (d :: ds)
end
theorem sqt_mono {K : Fg} {H H' : Hp} {a : Addr} {xs : List V} (e : Same H H') (h : SqT K H a xs) : SqT K H' a xs := by
  rcases h with (h | ⟨o, h⟩) | h
  · exact .inl (.inl (e _ _ h))
  · exact .inl (.inr ⟨o, e _ _ h⟩)
  · exact .inr h
section
variable {K : Fg} {H H' : Hp}
theorem Dp.up {v : V} {d : PyData} (h : Dp K H v d) (e : Same H H') : Dp K H' v d :=
  Dp.rec (motive_1 := fun v d _ => Dp K H' v d) (motive_2 := fun vs ds _ => DpAll K H' vs ds) .non .bl .int .str (fun s _ a => .lst (e.seq s) a) (fun s _ a => .tup (sqt_mono e s) a)
    (fun h0 h1 h2 h3 _ a => .ins h0 (e _ _ h1) (e _ _ h2) h3 a) (fun h1 h2 _ a => .dct (e _ _ h1) h2 a) .nil (fun _ _ a b => .cons a b) h
theorem DpAll.up {vs : List V} {ds : List PyData} (h : DpAll K H vs ds) (e : Same H H') : DpAll K H' vs ds :=
  DpAll.rec (motive_1 := fun v d _ => Dp K H' v d) (motive_2 := fun vs ds _ => DpAll K H' vs ds) .non .bl .int .str (fun s _ a => .lst (e.seq s) a) (fun s _ a => .tup (sqt_mono e s) a)
    (fun h0 h1 h2 h3 _ a => .ins h0 (e _ _ h1) (e _ _ h2) h3 a) (fun h1 h2 _ a => .dct (e _ _ h1) h2 a) .nil (fun _ _ a b => .cons a b) h
/-- what the library's == may look at -/
theorem Dp.lib {v : V} {d : PyData} (h : Dp K H v d) : d.canLay0 = true → L2.Dp K H v d :=
  Dp.rec (motive_1 := fun v d _ => d.canLay0 = true → L2.Dp K H v d) (motive_2 := fun vs ds _ => PyData.canLayAll0 ds = true → L2.DpAll K H vs ds) (fun _ => .non) (fun b _ => .bl b) (fun i _ => .int i) (fun x _ => .str x) (fun s _ a c => .lst s (a c)) (fun s _ a c => .tup s (a c))
    (fun _ _ _ _ _ _ c => nomatch c) (fun _ _ _ _ c => nomatch c) (fun _ => .nil) (fun _ _ a b c => by
      have c' := Bool.and_eq_true_iff.mp c
      exact .cons (a c'.1) (b c'.2)) h
theorem Dp.lb {v : V} {d : PyData} (h : Dp K H v d) (s : SeqAt.shaped d = true) : L2.Dp K H v d := h.lib (SeqAt.canLay_of_shaped s)
theorem DpAll.len : ∀ {vs : List V} {ds : List PyData}, DpAll K H vs ds → vs.length = ds.length
  | _, _, .nil => rfl
  | _, _, .cons _ t => by rw [List.length_cons, List.length_cons, DpAll.len t]
theorem DpAll.get : ∀ {vs : List V} {ds : List PyData} {i : Nat} {d : PyData}, DpAll K H vs ds → ds[i]? = some d → ∃ v, vs[i]? = some v ∧ Dp K H v d
  | _, _, _, _, .nil, e => by simp at e
  | _, _, 0, _, .cons h _, e => by simp at e; subst e; exact ⟨_, rfl, h⟩
  | _, _, i + 1, d, .cons _ t, e => by
    obtain ⟨v, h1, h2⟩ := DpAll.get (i := i) (d := d) t (by simpa using e)
    exact ⟨v, by simpa using h1, h2⟩
theorem DpAll.getV : ∀ {vs : List V} {ds : List PyData} {i : Nat} {v : V}, DpAll K H vs ds → vs[i]? = some v → ∃ d, ds[i]? = some d ∧ Dp K H v d
  | _, _, _, _, .nil, e => by simp at e
  | _, _, 0, _, .cons h _, e => by simp at e; subst e; exact ⟨_, rfl, h⟩
  | _, _, i + 1, d, .cons _ t, e => by
    obtain ⟨v, h1, h2⟩ := DpAll.getV (i := i) (v := d) t (by simpa using e)
    exact ⟨v, by simpa using h1, h2⟩
theorem DpAll.app : ∀ {vs ws : List V} {ds es : List PyData}, DpAll K H vs ds → DpAll K H ws es → DpAll K H (vs ++ ws) (ds ++ es)
  | _, _, _, _, .nil, h => h
  | _, _, _, _, .cons a t, h => .cons a (DpAll.app t h)
theorem DpAll.set {v : V} {d : PyData} (h : Dp K H v d) : ∀ {vs : List V} {ds : List PyData} (i : Nat), DpAll K H vs ds → DpAll K H (vs.set i v) (ds.set i d)
  | _, _, _, .nil => .nil
  | _, _, 0, .cons _ t => .cons h t
  | _, _, i + 1, .cons a t => .cons a (DpAll.set h i t)
theorem DpAll.drop : ∀ {vs : List V} {ds : List PyData} (n : Nat), DpAll K H vs ds → DpAll K H (vs.drop n) (ds.drop n)
  | _, _, 0, h => h
  | _, _, _ + 1, .nil => .nil
  | _, _, n + 1, .cons _ t => DpAll.drop n t
theorem DpAll.take : ∀ {vs : List V} {ds : List PyData} (n : Nat), DpAll K H vs ds → DpAll K H (vs.take n) (ds.take n)
  | _, _, 0, _ => .nil
  | _, _, _ + 1, .nil => .nil
  | _, _, n + 1, .cons a t => .cons a (DpAll.take n t)
theorem DpAll.ints : ∀ (ns : List Int), DpAll K H (ns.map V.int) (ns.map PyData.int)
  | [] => .nil
  | n :: r => .cons (.int n) (DpAll.ints r)
theorem DpAll.toInts : ∀ {ns : List Int} {vs : List V}, DpAll K H vs (ns.map PyData.int) → vs = ns.map V.int
  | [], _, h => by cases h; rfl
  | n :: r, _, h => by
    cases h with
    | cons a t => cases a; rw [DpAll.toInts t]; rfl
theorem DpAll.toBools : ∀ {ns : List Bool} {vs : List V}, DpAll K H vs (ns.map PyData.bool) → vs = ns.map V.bl
  | [], _, h => by cases h; rfl
  | n :: r, _, h => by
    cases h with
    | cons a t => cases a; rw [DpAll.toBools t]; rfl
theorem DpAll.toStrs : ∀ {ns : List Str} {vs : List V}, DpAll K H vs (ns.map PyData.str) → vs = ns.map V.str
  | [], _, h => by cases h; rfl
  | n :: r, _, h => by
    cases h with
    | cons a t => cases a; rw [DpAll.toStrs t]; rfl
end
/-! ### slots by data -/
/-- a field: shared data, or a list of the object's own -/
inductive Fv where
  | d (d : PyData)
  | l (xs : List PyData)
/-- owned things: a list of lists; an object -/
inductive Ob where
  | nst (xss : List (List PyData))
  | ins (C : Str) (fs : List (Str × Fv))
/-- shared data; an owned list, an owned thing (p: the caller's, of an argument); the exception that was caught -/
inductive Sl where
  | sh (d : PyData)
  | ow (p : Bool) (xs : List PyData)
  | ob (p : Bool) (o : Ob)
  | xn (C : Str)
def Sl.own : Sl → Bool
  | .sh _ => false
  | .xn _ => false
  | _ => true
def Sl.prm : Sl → Bool
  | .sh _ => false
  | .xn _ => false
  | .ow p _ => p
  | .ob p _ => p
abbrev DSt := List (Option Sl)
/-- an exception: its class by its name, its fields -/
structure Xd where
  C : Str
  fs : List (Str × PyData)
/-- the entry: the heap, its shared part, what the caller lends, what is guarded, what the slots held; what is wanted of an exception -/
structure Ent where
  H0 : Hp
  Hs0 : Hp
  own : List Addr
  G : List (Addr × HO)
  σ0 : St
  xa : Option (Addr × Str)
  ex : Xd → DSt → Prop
/-- a callee's -/
abbrev Ent.at (H Hs : Hp) (own : List Addr) (σ0 : St) : Ent := ⟨H, Hs, own, [], σ0, none, fun _ _ => False⟩
/-! footprints -/
inductive FvAt (K : Fg) (Hs H : Hp) : V → Fv → List Addr → Prop
  | d {v : V} {d : PyData} : Dp K Hs v d → FvAt K Hs H v (.d d) []
  | l {a : Addr} {ws : List V} {xs : List PyData} : H a = some (.lst ws) → DpAll K Hs ws xs → FvAt K Hs H (.ref a) (.l xs) [a]
inductive FsAt (K : Fg) (Hs H : Hp) : List (Str × V) → List (Str × Fv) → List Addr → Prop
  | nil : FsAt K Hs H [] [] []
  | cons {x : Str} {v : V} {f : Fv} {vs : List (Str × V)} {fs : List (Str × Fv)} {A B : List Addr} : FvAt K Hs H v f A → FsAt K Hs H vs fs B → FsAt K Hs H ((x, v) :: vs) ((x, f) :: fs) (A ++ B)
inductive LsAt (K : Fg) (Hs H : Hp) : List V → List (List PyData) → List Addr → Prop
  | nil : LsAt K Hs H [] [] []
  | cons {a : Addr} {ws vs : List V} {xs : List PyData} {xss : List (List PyData)} {A : List Addr} : H a = some (.lst ws) → DpAll K Hs ws xs → LsAt K Hs H vs xss A → LsAt K Hs H (.ref a :: vs) (xs :: xss) (a :: A)
inductive At (K : Fg) (Hs H : Hp) : V → Sl → List Addr → Prop
  | ow {a : Addr} {p : Bool} {ws : List V} {xs : List PyData} : H a = some (.lst ws) → DpAll K Hs ws xs → At K Hs H (.ref a) (.ow p xs) [a]
  | nst {a : Addr} {p : Bool} {vs : List V} {xss : List (List PyData)} {A : List Addr} : H a = some (.lst vs) → LsAt K Hs H vs xss A → (a :: A).Nodup → At K Hs H (.ref a) (.ob p (.nst xss)) (a :: A)
  | ins {a dx : Addr} {p : Bool} {C : Str} {vs : List (Str × V)} {fs : List (Str × Fv)} {A : List Addr} : H a = some (.ins (He.ga K C) dx vs) → H dx = some (.own a) → FsAt K Hs H vs fs A → (a :: dx :: A).Nodup → At K Hs H (.ref a) (.ob p (.ins C fs)) (a :: dx :: A)
section
variable {K : Fg} {Hs H Hs' H' : Hp}
theorem FvAt.fr {v : V} {f : Fv} {A : List Addr} (h : FvAt K Hs H v f A) (e : Same Hs Hs') (k : ∀ a ∈ A, H' a = H a) : FvAt K Hs' H' v f A := by
  cases h with
  | d h => exact .d (h.up e)
  | l h1 h2 => exact .l ((k _ (List.mem_singleton.mpr rfl)).trans h1) (h2.up e)
theorem FsAt.fr {vs : List (Str × V)} {fs : List (Str × Fv)} {A : List Addr} (h : FsAt K Hs H vs fs A) (e : Same Hs Hs') (k : ∀ a ∈ A, H' a = H a) : FsAt K Hs' H' vs fs A := by
  induction h with
  | nil => exact .nil
  | cons h _ ih => exact .cons (h.fr e fun a m => k a (List.mem_append_left _ m)) (ih fun a m => k a (List.mem_append_right _ m))
theorem LsAt.fr {vs : List V} {xss : List (List PyData)} {A : List Addr} (h : LsAt K Hs H vs xss A) (e : Same Hs Hs') (k : ∀ a ∈ A, H' a = H a) : LsAt K Hs' H' vs xss A := by
  induction h with
  | nil => exact .nil
  | cons h1 h2 _ ih => exact .cons ((k _ (List.mem_cons_self ..)).trans h1) (h2.up e) (ih fun a m => k a (List.mem_cons_of_mem _ m))
theorem At.fr {v : V} {s : Sl} {A : List Addr} (h : At K Hs H v s A) (e : Same Hs Hs') (k : ∀ a ∈ A, H' a = H a) : At K Hs' H' v s A := by
  cases h with
  | ow h1 h2 => exact .ow ((k _ (List.mem_singleton.mpr rfl)).trans h1) (h2.up e)
  | nst h1 h2 h3 => exact .nst ((k _ (List.mem_cons_self ..)).trans h1) (h2.fr e fun a m => k a (List.mem_cons_of_mem _ m)) h3
  | ins h1 h2 h3 h4 => exact .ins ((k _ (List.mem_cons_self ..)).trans h1) ((k _ (List.mem_cons_of_mem _ (List.mem_cons_self ..))).trans h2) (h3.fr e fun a m => k a (List.mem_cons_of_mem _ (List.mem_cons_of_mem _ m))) h4
theorem FvAt.live {v : V} {f : Fv} {A : List Addr} (h : FvAt K Hs H v f A) : ∀ a ∈ A, H a ≠ none := by
  cases h with
  | d h => exact fun a m => nomatch m
  | l h1 h2 =>
    intro a m
    rw [List.mem_singleton.mp m, h1]
    exact fun z => nomatch z
theorem FsAt.live {vs : List (Str × V)} {fs : List (Str × Fv)} {A : List Addr} (h : FsAt K Hs H vs fs A) : ∀ a ∈ A, H a ≠ none := by
  induction h with
  | nil => exact fun a m => nomatch m
  | cons h _ ih =>
    intro a m
    rcases List.mem_append.mp m with z | z
    · exact h.live a z
    · exact ih a z
theorem LsAt.live {vs : List V} {xss : List (List PyData)} {A : List Addr} (h : LsAt K Hs H vs xss A) : ∀ a ∈ A, H a ≠ none := by
  induction h with
  | nil => exact fun a m => nomatch m
  | cons h1 h2 _ ih =>
    intro a m
    rcases List.mem_cons.mp m with z | z
    · rw [z, h1]
      exact fun z => nomatch z
    · exact ih a z
theorem At.live {v : V} {s : Sl} {A : List Addr} (h : At K Hs H v s A) : ∀ a ∈ A, H a ≠ none := by
  cases h with
  | ow h1 h2 =>
    intro a m
    rw [List.mem_singleton.mp m, h1]
    exact fun z => nomatch z
  | nst h1 h2 h3 =>
    intro a m
    rcases List.mem_cons.mp m with z | z
    · rw [z, h1]
      exact fun z => nomatch z
    · exact h2.live a z
  | ins h1 h2 h3 h4 =>
    intro a m
    rcases List.mem_cons.mp m with z | z
    · rw [z, h1]
      exact fun z => nomatch z
    · rcases List.mem_cons.mp z with z | z
      · rw [z, h2]
        exact fun z => nomatch z
      · exact h3.live a z
theorem At.head {v : V} {s : Sl} {A : List Addr} (h : At K Hs H v s A) : ∃ a, v = .ref a ∧ a ∈ A := by
  cases h with
  | ow h1 h2 => exact ⟨_, rfl, List.mem_singleton.mpr rfl⟩
  | nst h1 h2 h3 => exact ⟨_, rfl, List.mem_cons_self ..⟩
  | ins h1 h2 h3 h4 => exact ⟨_, rfl, List.mem_cons_self ..⟩
theorem At.owned {v : V} {s : Sl} {A : List Addr} (h : At K Hs H v s A) : s.own = true := by cases h <;> rfl
end
structure Fps (K : Fg) (Z : Ent) (Hs H : Hp) (σ : St) (δ : DSt) (f : Nat → List Addr) : Prop where
  at_ : ∀ (i : Nat) (s : Sl), δ[i]? = some (some s) → s.own = true → ∃ v : V, σ[i]? = some (some v) ∧ At K Hs H v s (f i)
  emp : ∀ i : Nat, (∀ s : Sl, δ[i]? = some (some s) → s.own = false) → f i = []
  hs : ∀ (i : Nat) (a : Addr), a ∈ f i → Hs a = none
  old : ∀ (i : Nat) (a : Addr), a ∈ f i → Z.H0 a = none ∨ a ∈ Z.own
  mine : ∀ (i : Nat) (s : Sl) (a : Addr), δ[i]? = some (some s) → s.prm = false → a ∈ f i → Z.H0 a = none ∧ a ∉ Z.own
  dis : ∀ (i j : Nat) (a : Addr), i ≠ j → a ∈ f i → a ∉ f j
  g : ∀ (i : Nat) (a : Addr) (o : HO), a ∈ f i → (a, o) ∉ Z.G
structure Rl (K : Fg) (Z : Ent) (Hs H : Hp) (σ : St) (δ : DSt) : Prop where
  len : σ.length = δ.length
  sub : Same Hs H
  ext : Same Z.Hs0 Hs
  fr : ∀ (b : Addr) (o : HO), Z.H0 b = some o → b ∉ Z.own → H b = some o
  new : ∀ (b : Addr), Hs b ≠ none → Z.Hs0 b ≠ none ∨ Z.H0 b = none
  hid : ∀ (b : Addr), b ∈ Z.own → Hs b = none ∧ H b ≠ none
  shr : ∀ (i : Nat) (d : PyData), δ[i]? = some (some (Sl.sh d)) → ∃ v : V, σ[i]? = some (some v) ∧ Dp K Hs v d
  fps : ∃ f, Fps K Z Hs H σ δ f
  grd : ∀ (a : Addr) (o : HO), (a, o) ∈ Z.G → H a = some o ∧ Hs a = none ∧ a ∉ Z.own
  prm : ∀ (i : Nat) (s : Sl), δ[i]? = some (some s) → s.prm = true → σ[i]? = Z.σ0[i]?
  exn : ∀ (i : Nat) (C : Str), δ[i]? = some (some (Sl.xn C)) → ∃ a, σ[i]? = some (some (V.ref a)) ∧ Z.xa = some (a, C)
theorem get_set {α : Type} {l : List (Option α)} {i j : Nat} {x : Option α} {y : α} (h : (l.set i x)[j]? = some (some y)) : (i = j ∧ x = some y) ∨ (i ≠ j ∧ l[j]? = some (some y)) := by
  rw [List.getElem?_set] at h
  by_cases e : i = j
  · subst e
    rw [if_pos rfl] at h
    split at h
    · exact .inl ⟨rfl, Option.some.inj h⟩
    · cases h
  · rw [if_neg e] at h
    exact .inr ⟨e, h⟩
theorem get_lt {α : Type} {l : List α} {i : Nat} {x : α} (h : l[i]? = some x) : i < l.length := (List.getElem?_eq_some_iff.mp h).1
theorem set_lt {l : DSt} {i j : Nat} {x : Option Sl} {y : Option Sl} (h : (l.set i x)[j]? = some y) : j < l.length := by
  have := get_lt h
  rw [List.length_set] at this
  exact this
theorem set_self {σ : St} {i : Nat} {v : V} (h : σ[i]? = some (some v)) : σ.set i (some v) = σ := by
  obtain ⟨hi, e⟩ := List.getElem?_eq_some_iff.mp h
  rw [← e]
  exact List.set_getElem_self hi
theorem same_new {H : Hp} {p : Addr} {o : HO} (h : H p = none) : Same H (upd H p o) := fun b x e => by
  rw [upd_ne (ne_of_none e h)]
  exact e
/-- a slot is not the caller's own -/
def Free (δ : DSt) (i : Nat) : Prop := ∀ s : Sl, δ[i]? = some (some s) → s.prm = false
section
variable {K : Fg} {Z : Ent} {Hs H Hs' H' : Hp} {σ : St} {δ : DSt}
theorem Rl.hsn (R : Rl K Z Hs H σ δ) {p : Addr} (h : H p = none) : Hs p = none := R.sub.free h
theorem Rl.won (R : Rl K Z Hs H σ δ) {p : Addr} (h : H p = none) : p ∉ Z.own := fun e => (R.hid p e).2 h
theorem Rl.h0n (R : Rl K Z Hs H σ δ) {p : Addr} (h : H p = none) : Z.H0 p = none := by
  cases q : Z.H0 p with
  | none => rfl
  | some o =>
    by_cases e : p ∈ Z.own
    · exact absurd h (R.hid p e).2
    · rw [R.fr p o q e] at h
      cases h
theorem Rl.nog (R : Rl K Z Hs H σ δ) {p : Addr} {o : HO} (h : H p = none) : (p, o) ∉ Z.G := fun m => by
  rw [(R.grd p o m).1] at h
  cases h
theorem Fps.live {f : Nat → List Addr} (F : Fps K Z Hs H σ δ f) (i : Nat) {a : Addr} (m : a ∈ f i) : H a ≠ none := by
  cases e : δ[i]? with
  | none =>
    rw [F.emp i (fun s z => by rw [e] at z; cases z)] at m
    exact nomatch m
  | some o =>
    cases o with
    | none =>
      rw [F.emp i (fun s z => by rw [e] at z; cases z)] at m
      exact nomatch m
    | some s =>
      cases ho : s.own with
      | false =>
        rw [F.emp i (fun s' z => by rw [e] at z; cases z; exact ho)] at m
        exact nomatch m
      | true =>
        obtain ⟨v, _, h⟩ := F.at_ i s e ho
        exact h.live a m
/-- all that is there stays; new shared things -/
theorem Rl.grow (R : Rl K Z Hs H σ δ) (hs : Same Hs Hs') (sb : Same Hs' H') (keep : ∀ (b : Addr) (o : HO), H b = some o → H' b = some o) (nw : ∀ b : Addr, Hs' b ≠ none → Hs b ≠ none ∨ H b = none) : Rl K Z Hs' H' σ δ := by
  have hidden : ∀ b : Addr, H b ≠ none → Hs b = none → Hs' b = none := fun b h n => by
    cases q : Hs' b with
    | none => rfl
    | some x =>
      rcases nw b (by rw [q]; exact fun z => nomatch z) with z | z
      · exact absurd n z
      · exact absurd z h
  have eqH : ∀ b : Addr, H b ≠ none → H' b = H b := fun b h => by
    cases q : H b with
    | none => exact absurd q h
    | some o => exact keep b o q
  refine ⟨R.len, sb, R.ext.trans hs, fun b o e n => keep b o (R.fr b o e n), fun b n => ?_, fun b e => ?_, fun i d e => ?_, ?_, fun a o m => ?_, R.prm, R.exn⟩
  · rcases nw b n with z | z
    · exact R.new b z
    · exact .inr (R.h0n z)
  · obtain ⟨h1, h2⟩ := R.hid b e
    exact ⟨hidden b h2 h1, by rw [eqH b h2]; exact h2⟩
  · obtain ⟨v, a, b⟩ := R.shr i d e
    exact ⟨v, a, b.up hs⟩
  · obtain ⟨f, F⟩ := R.fps
    refine ⟨f, ⟨fun i s e o => ?_, F.emp, fun i a m => hidden a (F.live i m) (F.hs i a m), F.old, F.mine, F.dis, F.g⟩⟩
    obtain ⟨v, h1, h2⟩ := F.at_ i s e o
    exact ⟨v, h1, h2.fr hs fun a m => eqH a (F.live i m)⟩
  · obtain ⟨h1, h2, h3⟩ := R.grd a o m
    exact ⟨keep a o h1, hidden a (by rw [h1]; exact fun z => nomatch z) h2, h3⟩
/-- a new shared object -/
theorem Rl.alloc (R : Rl K Z Hs H σ δ) {p : Addr} {o : HO} (h : H p = none) : Rl K Z (upd Hs p o) (upd H p o) σ δ := by
  refine R.grow (same_new (R.hsn h)) (fun b x e => ?_) (fun b x e => by rw [upd_ne (ne_of_none e h)]; exact e) (fun b n => ?_)
  · by_cases hb : b = p
    · subst hb
      rw [upd_same] at e ⊢
      exact e
    · rw [upd_ne hb] at e ⊢
      exact R.sub b x e
  · by_cases hb : b = p
    · subst hb
      exact .inr h
    · rw [upd_ne hb] at n
      exact .inl n
/-- a new object of one's own -/
theorem Rl.allocO (R : Rl K Z Hs H σ δ) {p : Addr} {o : HO} (h : H p = none) : Rl K Z Hs (upd H p o) σ δ :=
  R.grow (Same.refl _) (fun b x e => by rw [upd_ne (ne_of_none (R.sub b x e) h)]; exact R.sub b x e) (fun b x e => by rw [upd_ne (ne_of_none e h)]; exact e) (fun b n => .inl n)
/-- a slot is given something: shared, or with a footprint of its own -/
theorem Rl.put (R : Rl K Z Hs H σ δ) {i : Nat} {v : V} {s : Sl} {A : List Addr} (hsh : ∀ d, s = .sh d → Dp K Hs v d ∧ A = []) (hat : s.own = true → At K Hs H v s A) (h1 : ∀ a ∈ A, Hs a = none) (h2 : ∀ a ∈ A, Z.H0 a = none ∨ a ∈ Z.own) (h3 : s.prm = false → ∀ a ∈ A, Z.H0 a = none ∧ a ∉ Z.own)
    (h4 : ∀ f, Fps K Z Hs H σ δ f → ∀ (j : Nat) (a : Addr), j ≠ i → a ∈ A → a ∉ f j) (h5 : ∀ (a : Addr) (o : HO), a ∈ A → (a, o) ∉ Z.G) (h6 : s.prm = true → some (some v) = Z.σ0[i]?) (h7 : ∀ C, s = .xn C → (∃ a, v = .ref a ∧ Z.xa = some (a, C)) ∧ A = []) (hi : i < σ.length) : Rl K Z Hs H (σ.set i (some v)) (δ.set i (some s)) := by
  refine ⟨by rw [List.length_set, List.length_set, R.len], R.sub, R.ext, R.fr, R.new, R.hid, fun j d z => ?_, ?_, R.grd, fun j t z p => ?_, fun j C z => ?_⟩
  · rcases get_set z with ⟨rfl, z'⟩ | ⟨ne, z⟩
    · cases z'
      exact ⟨v, by rw [List.getElem?_set_self hi], (hsh d rfl).1⟩
    · obtain ⟨u, a, b⟩ := R.shr j d z
      exact ⟨u, by rw [List.getElem?_set_ne ne]; exact a, b⟩
  · obtain ⟨f, F⟩ := R.fps
    have no := h4 f F
    refine ⟨fun j => if j = i then A else f j, ⟨fun j t z o => ?_, fun j h => ?_, fun j a m => ?_, fun j a m => ?_, fun j t a z p m => ?_, fun j k a ne m m' => ?_, fun j a o m => ?_⟩⟩
    · rcases get_set z with ⟨rfl, z'⟩ | ⟨ne, z⟩
      · cases z'
        exact ⟨v, by rw [List.getElem?_set_self hi], by rw [if_pos rfl]; exact hat o⟩
      · obtain ⟨u, a, b⟩ := F.at_ j t z o
        exact ⟨u, by rw [List.getElem?_set_ne ne]; exact a, by rw [if_neg ne.symm]; exact b⟩
    · by_cases e : j = i
      · subst e
        rw [if_pos rfl]
        have : s.own = false := h s (by rw [List.getElem?_set_self (by rw [← R.len]; exact hi)])
        cases s with
        | sh d => exact (hsh d rfl).2
        | ow _ _ => cases this
        | ob _ _ => cases this
        | xn C => exact (h7 C rfl).2
      · rw [if_neg e]
        refine F.emp j fun t z => h t ?_
        rw [List.getElem?_set_ne (fun q => e q.symm)]
        exact z
    · by_cases e : j = i
      · rw [if_pos e] at m
        exact h1 a m
      · rw [if_neg e] at m
        exact F.hs j a m
    · by_cases e : j = i
      · rw [if_pos e] at m
        exact h2 a m
      · rw [if_neg e] at m
        exact F.old j a m
    · rcases get_set z with ⟨rfl, z'⟩ | ⟨ne, z⟩
      · cases z'
        rw [if_pos rfl] at m
        exact h3 p a m
      · rw [if_neg ne.symm] at m
        exact F.mine j t a z p m
    · by_cases e : j = i
      · rw [if_pos e] at m
        rw [if_neg (fun q => ne (e.trans q.symm))] at m'
        exact no k a (fun q => ne (e.trans q.symm)) m m'
      · rw [if_neg e] at m
        by_cases e2 : k = i
        · rw [if_pos e2] at m'
          exact no j a e m' m
        · rw [if_neg e2] at m'
          exact F.dis j k a ne m m'
    · by_cases e : j = i
      · rw [if_pos e] at m
        exact h5 a o m
      · rw [if_neg e] at m
        exact F.g j a o m
  · rcases get_set z with ⟨rfl, z'⟩ | ⟨ne, z⟩
    · cases z'
      rw [List.getElem?_set_self hi]
      exact h6 p
    · rw [List.getElem?_set_ne ne]
      exact R.prm j t z p
  · rcases get_set z with ⟨rfl, z'⟩ | ⟨ne, z⟩
    · cases z'
      obtain ⟨⟨a, rfl, h⟩, _⟩ := h7 C rfl
      exact ⟨a, by rw [List.getElem?_set_self hi], h⟩
    · obtain ⟨a, h1, h2⟩ := R.exn j C z
      exact ⟨a, by rw [List.getElem?_set_ne ne]; exact h1, h2⟩
theorem Rl.set_out (R : Rl K Z Hs H σ δ) {i : Nat} {v : Option V} {s : Option Sl} (hi : ¬ i < σ.length) : Rl K Z Hs H (σ.set i v) (δ.set i s) := by
  rw [List.set_eq_of_length_le (by omega), List.set_eq_of_length_le (by rw [← R.len]; omega)]
  exact R
theorem Rl.set (R : Rl K Z Hs H σ δ) {i : Nat} {v : V} {d : PyData} (h : Dp K Hs v d) : Rl K Z Hs H (σ.set i (some v)) (δ.set i (some (.sh d))) := by
  by_cases hi : i < σ.length
  · exact R.put (A := []) (fun d' e => by cases e; exact ⟨h, rfl⟩) (fun z => nomatch z) (fun a m => nomatch m) (fun a m => nomatch m) (fun _ a m => nomatch m) (fun _ _ _ a _ m => nomatch m) (fun a o m => nomatch m) (fun z => nomatch z) (fun C e => nomatch e) hi
  · exact R.set_out hi
/-- a slot is forgotten -/
theorem Rl.erase (R : Rl K Z Hs H σ δ) (i : Nat) : Rl K Z Hs H σ (δ.set i none) := by
  refine ⟨by rw [List.length_set, R.len], R.sub, R.ext, R.fr, R.new, R.hid, fun j e z => ?_, ?_, R.grd, fun j t z p => ?_, fun j C z => ?_⟩
  · rcases get_set z with ⟨rfl, z'⟩ | ⟨ne, z⟩
    · cases z'
    · exact R.shr j e z
  · obtain ⟨f, F⟩ := R.fps
    refine ⟨fun j => if j = i then [] else f j, ⟨fun j t z o => ?_, fun j h => ?_, fun j a m => ?_, fun j a m => ?_, fun j t a z p m => ?_, fun j k a ne m m' => ?_, fun j a o m => ?_⟩⟩
    · rcases get_set z with ⟨rfl, z'⟩ | ⟨ne, z⟩
      · cases z'
      · rw [if_neg ne.symm]
        exact F.at_ j t z o
    · by_cases e : j = i
      · rw [if_pos e]
      · rw [if_neg e]
        exact F.emp j fun t z => h t (by rw [List.getElem?_set_ne (fun q => e q.symm)]; exact z)
    · by_cases e : j = i
      · rw [if_pos e] at m
        exact nomatch m
      · rw [if_neg e] at m
        exact F.hs j a m
    · by_cases e : j = i
      · rw [if_pos e] at m
        exact nomatch m
      · rw [if_neg e] at m
        exact F.old j a m
    · rcases get_set z with ⟨rfl, z'⟩ | ⟨ne, z⟩
      · cases z'
      · rw [if_neg ne.symm] at m
        exact F.mine j t a z p m
    · by_cases e : j = i
      · rw [if_pos e] at m
        exact nomatch m
      · rw [if_neg e] at m
        by_cases e2 : k = i
        · rw [if_pos e2] at m'
          exact nomatch m'
        · rw [if_neg e2] at m'
          exact F.dis j k a ne m m'
    · by_cases e : j = i
      · rw [if_pos e] at m
        exact nomatch m
      · rw [if_neg e] at m
        exact F.g j a o m
  · rcases get_set z with ⟨rfl, z'⟩ | ⟨ne, z⟩
    · cases z'
    · exact R.prm j t z p
  · rcases get_set z with ⟨rfl, z'⟩ | ⟨ne, z⟩
    · cases z'
    · exact R.exn j C z
/-- what a new thing of one's own is -/
structure FrA (K : Fg) (Z : Ent) (Hs H : Hp) (σ : St) (δ : DSt) (v : V) (s : Sl) (A : List Addr) : Prop where
  at_ : At K Hs H v s A
  hs : ∀ a ∈ A, Hs a = none
  mine : ∀ a ∈ A, Z.H0 a = none ∧ a ∉ Z.own
  dis : ∀ f, Fps K Z Hs H σ δ f → ∀ (j : Nat) (a : Addr), a ∈ A → a ∉ f j
  g : ∀ (a : Addr) (o : HO), a ∈ A → (a, o) ∉ Z.G
theorem Rl.setA (R : Rl K Z Hs H σ δ) {i : Nat} {v : V} {s : Sl} {A : List Addr} (h : FrA K Z Hs H σ δ v s A) (hp : s.prm = false) : Rl K Z Hs H (σ.set i (some v)) (δ.set i (some s)) := by
  by_cases hi : i < σ.length
  · exact R.put (A := A) (fun d e => by have := h.at_.owned; rw [e] at this; cases this) (fun _ => h.at_) h.hs (fun a m => .inl (h.mine a m).1) (fun _ => h.mine) (fun f F j a _ m => h.dis f F j a m) h.g (fun z => by rw [hp] at z; cases z) (fun C e => by have := h.at_.owned; rw [e] at this; cases this) hi
  · exact R.set_out hi
abbrev FrO (K : Fg) (Z : Ent) (Hs H : Hp) (σ : St) (δ : DSt) (v : V) (xs : List PyData) : Prop := ∃ A, FrA K Z Hs H σ δ v (.ow false xs) A
theorem Rl.setO (R : Rl K Z Hs H σ δ) {i : Nat} {v : V} {xs : List PyData} (h : FrO K Z Hs H σ δ v xs) : Rl K Z Hs H (σ.set i (some v)) (δ.set i (some (.ow false xs))) := by
  obtain ⟨A, h⟩ := h
  exact R.setA h rfl
theorem FrA.lst {v : V} {p : Bool} {xs : List PyData} {A : List Addr} (h : FrA K Z Hs H σ δ v (.ow p xs) A) : ∃ a ws, v = .ref a ∧ A = [a] ∧ H a = some (.lst ws) ∧ DpAll K Hs ws xs := by
  cases h.at_ with
  | ow h1 h2 => exact ⟨_, _, rfl, rfl, h1, h2⟩
theorem FrO.lst {v : V} {xs : List PyData} (h : FrO K Z Hs H σ δ v xs) : ∃ a ws, v = .ref a ∧ H a = some (.lst ws) ∧ Hs a = none ∧ DpAll K Hs ws xs ∧ Z.H0 a = none ∧ a ∉ Z.own := by
  obtain ⟨A, h⟩ := h
  obtain ⟨a, ws, rfl, rfl, h1, h2⟩ := h.lst
  have m : a ∈ [a] := List.mem_singleton.mpr rfl
  exact ⟨a, ws, rfl, h1, h.hs a m, h2, (h.mine a m).1, (h.mine a m).2⟩
/-- a thing at addresses that are new -/
theorem FrA.fresh (R : Rl K Z Hs H σ δ) {v : V} {s : Sl} {A : List Addr} (R' : Rl K Z Hs' H' σ δ) (h : At K Hs' H' v s A) (hn : ∀ a ∈ A, H a = none) (hs : ∀ a ∈ A, Hs' a = none) (live : ∀ f, Fps K Z Hs' H' σ δ f → ∀ (j : Nat) (a : Addr), a ∈ f j → H a ≠ none) : FrA K Z Hs' H' σ δ v s A :=
  ⟨h, hs, fun a m => ⟨R.h0n (hn a m), R.won (hn a m)⟩, fun f F j a m m' => live f F j a m' (hn a m), fun a o m => R.nog (hn a m)⟩
theorem At.uniq {v : V} {s : Sl} {A B : List Addr} (h : At K Hs H v s A) (h' : At K Hs' H v s B) : A = B := by
  have kv : ∀ {v : V} {f : Fv} {A B : List Addr}, FvAt K Hs H v f A → FvAt K Hs' H v f B → A = B := fun h h' => by
    cases h with
    | d _ => cases h' with
      | d _ => rfl
    | l _ _ => cases h' with
      | l _ _ => rfl
  have ks : ∀ {vs : List (Str × V)} {fs : List (Str × Fv)} {A B : List Addr}, FsAt K Hs H vs fs A → FsAt K Hs' H vs fs B → A = B := fun {vs fs A B} h => by
    intro h'
    induction h generalizing B with
    | nil => cases h'; rfl
    | cons a _ ih =>
      cases h' with
      | cons a' b' => rw [kv a a', ih b']
  have kl : ∀ {vs : List V} {xss : List (List PyData)} {A B : List Addr}, LsAt K Hs H vs xss A → LsAt K Hs' H vs xss B → A = B := fun {vs xss A B} h => by
    intro h'
    induction h generalizing B with
    | nil => cases h'; rfl
    | cons a _ _ ih =>
      cases h' with
      | cons a' _ b' => rw [ih b']
  cases h with
  | ow _ _ => cases h' with
    | ow _ _ => rfl
  | nst a b _ => cases h' with
    | nst a' b' _ =>
      rw [a] at a'
      cases a'
      rw [kl b b']
  | ins a _ b _ => cases h' with
    | ins a' _ b' _ =>
      rw [a] at a'
      cases a'
      rw [ks b b']
/-- the footprints are told by the heap -/
theorem Fps.same {f f' : Nat → List Addr} {Hs2 : Hp} {Z2 : Ent} (F : Fps K Z Hs H σ δ f) (F' : Fps K Z2 Hs2 H σ δ f') (i : Nat) : f i = f' i := by
  cases e : δ[i]? with
  | none => rw [F.emp i (fun s z => by rw [e] at z; cases z), F'.emp i fun s z => by rw [e] at z; cases z]
  | some o =>
    cases o with
    | none => rw [F.emp i (fun s z => by rw [e] at z; cases z), F'.emp i fun s z => by rw [e] at z; cases z]
    | some s =>
      cases ho : s.own with
      | false => rw [F.emp i (fun s' z => by rw [e] at z; cases z; exact ho), F'.emp i fun s' z => by rw [e] at z; cases z; exact ho]
      | true =>
        obtain ⟨v, h1, h2⟩ := F.at_ i s e ho
        obtain ⟨v', h1', h2'⟩ := F'.at_ i s e ho
        rw [h1] at h1'
        cases h1'
        exact h2.uniq h2'
/-- a slot that stands as it stood keeps its footprint -/
theorem Fps.eqj {f f' : Nat → List Addr} {Z2 : Ent} {Hs2 H2 : Hp} {σ2 : St} {δ2 : DSt} (F : Fps K Z Hs H σ δ f) (F' : Fps K Z2 Hs2 H2 σ2 δ2 f') (j : Nat) (hd : δ2[j]? = δ[j]?) (hv : ∀ v, σ[j]? = some (some v) → σ2[j]? = some (some v)) (keep : ∀ a ∈ f j, H2 a = H a) : f' j = f j := by
  have no : (∀ s : Sl, δ[j]? = some (some s) → s.own = false) → f' j = f j := fun h => by
    rw [F.emp j h, F'.emp j (fun s z => h s (by rw [← hd]; exact z))]
  cases e : δ[j]? with
  | none => exact no fun s z => by rw [e] at z; cases z
  | some o =>
    cases o with
    | none => exact no fun s z => by rw [e] at z; cases z
    | some t =>
      cases ho : t.own with
      | false => exact no fun s z => by rw [e] at z; cases z; exact ho
      | true =>
        obtain ⟨u, h1, h2⟩ := F.at_ j t e ho
        obtain ⟨u', h1', h2'⟩ := F'.at_ j t (by rw [hd]; exact e) ho
        rw [hv u h1] at h1'
        cases h1'
        exact h2'.uniq (h2.fr (Hs' := Hs) (H' := H2) (Same.refl _) keep)
/-- an owned thing with another mark -/
def Sl.as (p : Bool) : Sl → Sl
  | .sh d => .sh d
  | .ow _ xs => .ow p xs
  | .ob _ o => .ob p o
  | .xn C => .xn C
theorem Sl.as_own {p : Bool} {s : Sl} : (s.as p).own = s.own := by cases s <;> rfl
theorem Sl.as_prm {p : Bool} {s : Sl} (h : s.own = true) : (s.as p).prm = p := by
  cases s with
  | sh d => cases h
  | ow _ _ => rfl
  | ob _ _ => rfl
  | xn C => cases h
theorem At.as {v : V} {s : Sl} {A : List Addr} (p : Bool) (h : At K Hs H v s A) : At K Hs H v (s.as p) A := by
  cases h with
  | ow h1 h2 => exact .ow h1 h2
  | nst h1 h2 h3 => exact .nst h1 h2 h3
  | ins h1 h2 h3 h4 => exact .ins h1 h2 h3 h4
/-- a heap that keeps what is there keeps the footprints -/
theorem Fps.back {f : Nat → List Addr} (R : Rl K Z Hs H σ δ) (F : Fps K Z Hs' H' σ δ f) (keep : ∀ (b : Addr) (o : HO), H b = some o → H' b = some o) : ∀ (j : Nat) (a : Addr), a ∈ f j → H a ≠ none := by
  intro j a m
  obtain ⟨f0, F0⟩ := R.fps
  have e : f j = f0 j := by
    cases e : δ[j]? with
    | none => rw [F.emp j (fun s z => by rw [e] at z; cases z), F0.emp j (fun s z => by rw [e] at z; cases z)]
    | some o =>
      cases o with
      | none => rw [F.emp j (fun s z => by rw [e] at z; cases z), F0.emp j (fun s z => by rw [e] at z; cases z)]
      | some s =>
        cases ho : s.own with
        | false => rw [F.emp j (fun s' z => by rw [e] at z; cases z; exact ho), F0.emp j (fun s' z => by rw [e] at z; cases z; exact ho)]
        | true =>
          obtain ⟨v, h1, h2⟩ := F.at_ j s e ho
          obtain ⟨v', h1', h2'⟩ := F0.at_ j s e ho
          rw [h1] at h1'
          cases h1'
          have k := h2'.fr (Hs' := Hs) (H' := H') (Same.refl _) fun a m => by
            cases q : H a with
            | none => exact absurd q (h2'.live a m)
            | some o => exact keep a o q
          exact h2.uniq k
  rw [e] at m
  exact F0.live j m
/-- a new thing beside a slot that is given another one -/
theorem FrA.put {u v : V} {s t : Sl} {A B : List Addr} {i : Nat} (R : Rl K Z Hs H σ δ) (c : FrA K Z Hs H σ δ u t B) (hat : s.own = true → At K Hs H v s A) (hd : ∀ a ∈ B, a ∉ A) : FrA K Z Hs H (σ.set i (some v)) (δ.set i (some s)) u t B := by
  refine ⟨c.at_, c.hs, c.mine, fun f' F' j a m m' => ?_, c.g⟩
  obtain ⟨f, F⟩ := R.fps
  by_cases e : j = i
  · subst e
    by_cases hj : j < δ.length
    · have hz : (δ.set j (some s))[j]? = some (some s) := List.getElem?_set_self hj
      cases ho : s.own with
      | false =>
        rw [F'.emp j (fun q z => by rw [hz] at z; cases z; exact ho)] at m'
        exact nomatch m'
      | true =>
        obtain ⟨v', k1, k2⟩ := F'.at_ j s hz ho
        rw [List.getElem?_set_self (by rw [R.len]; exact hj)] at k1
        cases k1
        rw [k2.uniq (hat ho)] at m'
        exact hd a m m'
    · rw [F'.emp j (fun q z => absurd (set_lt z) hj)] at m'
      exact nomatch m'
  · rw [F.eqj F' j (List.getElem?_set_ne (fun q => e q.symm)) (fun w z => by rw [List.getElem?_set_ne (fun q => e q.symm)]; exact z) fun _ _ => rfl] at m'
    exact c.dis f F j a m m'
/-- the frame alone -/
theorem Rl.mk0 (sub : Same Hs H) (ext : Same Z.Hs0 Hs) (fr : ∀ (b : Addr) (o : HO), Z.H0 b = some o → b ∉ Z.own → H b = some o) (new : ∀ (b : Addr), Hs b ≠ none → Z.Hs0 b ≠ none ∨ Z.H0 b = none) (hid : ∀ (b : Addr), b ∈ Z.own → Hs b = none ∧ H b ≠ none)
    (grd : ∀ (a : Addr) (o : HO), (a, o) ∈ Z.G → H a = some o ∧ Hs a = none ∧ a ∉ Z.own) : Rl K Z Hs H [] [] :=
  ⟨rfl, sub, ext, fr, new, hid, fun i d e => (nomatch e), ⟨fun _ => [], ⟨fun i s e => (nomatch e), fun _ _ => rfl, fun i a m => (nomatch m), fun i a m => (nomatch m), fun i s a e => (nomatch e), fun i j a n m => (nomatch m), fun i a o m => nomatch m⟩⟩, grd, fun i s e => (nomatch e), fun i C e => nomatch e⟩
theorem FrO.new (R : Rl K Z Hs H σ δ) {p : Addr} {ws : List V} {xs : List PyData} (h : H p = none) (d : DpAll K Hs ws xs) : FrO K Z Hs (upd H p (.lst ws)) σ δ (.ref p) xs :=
  ⟨[p], FrA.fresh R (R.allocO h) (.ow upd_same d) (fun a m => by rw [List.mem_singleton.mp m]; exact h) (fun a m => by rw [List.mem_singleton.mp m]; exact R.hsn h) fun f F => F.back R fun b o e => by rw [upd_ne (ne_of_none e h)]; exact e⟩
/-- an owned list is to be seen -/
theorem Rl.own (R : Rl K Z Hs H σ δ) (i : Nat) (p : Bool) (xs : List PyData) (h : δ[i]? = some (some (Sl.ow p xs))) : ∃ (a : Addr) (ws : List V), σ[i]? = some (some (V.ref a)) ∧ H a = some (.lst ws) ∧ Hs a = none ∧ DpAll K Hs ws xs := by
  obtain ⟨f, F⟩ := R.fps
  obtain ⟨v, h1, h2⟩ := F.at_ i _ h rfl
  have hs := F.hs i
  generalize f i = A at h2 hs
  cases h2 with
  | ow k1 k2 => exact ⟨_, _, h1, k1, hs _ (List.mem_singleton.mpr rfl), k2⟩
theorem Fps.lst {f : Nat → List Addr} (F : Fps K Z Hs H σ δ f) {i : Nat} {p : Bool} {xs : List PyData} {a : Addr} (h : δ[i]? = some (some (Sl.ow p xs))) (hv : σ[i]? = some (some (V.ref a))) : f i = [a] := by
  obtain ⟨v, k1, k2⟩ := F.at_ i _ h rfl
  rw [hv] at k1
  cases k1
  generalize f i = A at k2
  cases k2 with
  | ow _ _ => rfl
/-- an owned thing is changed, within its footprint and at new addresses -/
theorem Rl.chg (R : Rl K Z Hs H σ δ) {i : Nat} {s s' : Sl} {v : V} {A : List Addr} (hd : δ[i]? = some (some s)) (ho : s.own = true) (hv : σ[i]? = some (some v)) (hp : s'.prm = s.prm) (hs : Same Hs Hs') (sb : Same Hs' H')
    (keep : ∀ f, Fps K Z Hs H σ δ f → ∀ (b : Addr) (o : HO), b ∉ f i → H b = some o → H' b = some o) (live : ∀ b : Addr, H b ≠ none → H' b ≠ none) (nw : ∀ b : Addr, Hs' b ≠ none → Hs b ≠ none ∨ H b = none)
    (hat : At K Hs' H' v s' A) (hA : ∀ f, Fps K Z Hs H σ δ f → ∀ a ∈ A, a ∈ f i ∨ H a = none) (hAs : ∀ a ∈ A, Hs' a = none) : Rl K Z Hs' H' σ (δ.set i (some s')) := by
  obtain ⟨f, F⟩ := R.fps
  have keep := keep f F
  have hA := hA f F
  have hi : i < σ.length := get_lt hv
  have hidden : ∀ b : Addr, H b ≠ none → Hs b = none → Hs' b = none := fun b h n => by
    cases q : Hs' b with
    | none => rfl
    | some x =>
      rcases nw b (by rw [q]; exact fun z => nomatch z) with z | z
      · exact absurd n z
      · exact absurd z h
  have R1 : Rl K Z Hs' H' σ (δ.set i none) := by
    refine ⟨by rw [List.length_set, R.len], sb, R.ext.trans hs, fun b o e n => ?_, fun b n => ?_, fun b e => ?_, fun j d z => ?_, ?_, fun a o m => ?_, (R.erase i).prm, (R.erase i).exn⟩
    · refine keep b o (fun m => ?_) (R.fr b o e n)
      rcases F.old i b m with z | z
      · rw [z] at e
        cases e
      · exact n z
    · rcases nw b n with z | z
      · exact R.new b z
      · exact .inr (R.h0n z)
    · obtain ⟨h1, h2⟩ := R.hid b e
      exact ⟨hidden b h2 h1, live b h2⟩
    · rcases get_set z with ⟨rfl, z'⟩ | ⟨ne, z⟩
      · cases z'
      · obtain ⟨u, a, b⟩ := R.shr j d z
        exact ⟨u, a, b.up hs⟩
    · have E := (R.erase i).fps
      obtain ⟨f2, F2⟩ := E
      have e2 : ∀ j, j ≠ i → f2 j = f j := fun j ne => by
        cases e : δ[j]? with
        | none => rw [F2.emp j (fun s z => by rw [List.getElem?_set_ne (fun q => ne q.symm), e] at z; cases z), F.emp j (fun s z => by rw [e] at z; cases z)]
        | some o =>
          cases o with
          | none => rw [F2.emp j (fun s z => by rw [List.getElem?_set_ne (fun q => ne q.symm), e] at z; cases z), F.emp j (fun s z => by rw [e] at z; cases z)]
          | some t =>
            cases ho : t.own with
            | false => rw [F2.emp j (fun s' z => by rw [List.getElem?_set_ne (fun q => ne q.symm), e] at z; cases z; exact ho), F.emp j (fun s' z => by rw [e] at z; cases z; exact ho)]
            | true =>
              obtain ⟨u, h1, h2⟩ := F.at_ j t e ho
              obtain ⟨u', h1', h2'⟩ := F2.at_ j t (by rw [List.getElem?_set_ne (fun q => ne q.symm)]; exact e) ho
              rw [h1] at h1'
              cases h1'
              exact h2'.uniq h2
      have ei : f2 i = [] := F2.emp i fun t z => by
        rcases get_set z with ⟨_, z'⟩ | ⟨ne, _⟩
        · cases z'
        · exact absurd rfl ne
      have kept : ∀ j a, a ∈ f2 j → H' a = H a := fun j a m => by
        by_cases e : j = i
        · rw [e, ei] at m
          exact nomatch m
        · have l := F2.live j m
          cases q : H a with
          | none => exact absurd q l
          | some o => exact keep a o (fun m' => F.dis j i a e (by rw [← e2 j e]; exact m) m') q
      refine ⟨f2, ⟨fun j t z o => ?_, F2.emp, fun j a m => hidden a (F2.live j m) (F2.hs j a m), F2.old, F2.mine, F2.dis, F2.g⟩⟩
      obtain ⟨u, h1, h2⟩ := F2.at_ j t z o
      exact ⟨u, h1, h2.fr hs fun a m => kept j a m⟩
    · obtain ⟨h1, h2, h3⟩ := R.grd a o m
      exact ⟨keep a o (fun m' => F.g i a o m' m) h1, hidden a (by rw [h1]; exact fun z => nomatch z) h2, h3⟩
  have R2 := R1.put (i := i) (v := v) (s := s') (A := A) (fun d e => by have := hat.owned; rw [e] at this; cases this) (fun _ => hat) hAs
    (fun a m => by
      rcases hA a m with z | z
      · exact F.old i a z
      · exact .inl (R.h0n z))
    (fun p a m => by
      rcases hA a m with z | z
      · exact F.mine i s a hd (hp ▸ p) z
      · exact ⟨R.h0n z, R.won z⟩)
    (fun f1 F1 j a ne m m' => by
      have old : a ∈ f j := by
        cases e : δ[j]? with
        | none =>
          rw [F1.emp j (fun s z => by rw [List.getElem?_set_ne (fun q => ne q.symm), e] at z; cases z)] at m'
          exact nomatch m'
        | some o =>
          cases o with
          | none =>
            rw [F1.emp j (fun s z => by rw [List.getElem?_set_ne (fun q => ne q.symm), e] at z; cases z)] at m'
            exact nomatch m'
          | some t =>
            cases ho : t.own with
            | false =>
              rw [F1.emp j (fun s z => by rw [List.getElem?_set_ne (fun q => ne q.symm), e] at z; cases z; exact ho)] at m'
              exact nomatch m'
            | true =>
              obtain ⟨u, h1, h2⟩ := F.at_ j t e ho
              obtain ⟨u', h1', h2'⟩ := F1.at_ j t (by rw [List.getElem?_set_ne (fun q => ne q.symm)]; exact e) ho
              rw [h1] at h1'
              cases h1'
              have k := h2.fr (Hs' := Hs) (H' := H') (Same.refl _) fun b mb => by
                have l := h2.live b mb
                cases q : H b with
                | none => exact absurd q l
                | some o => exact keep b o (fun m2 => F.dis j i b ne mb m2) q
              rw [← h2'.uniq k]
              exact m'
      rcases hA a m with z | z
      · exact F.dis j i a ne old z
      · exact F.live j old z)
    (fun a o m => by
      rcases hA a m with z | z
      · exact F.g i a o z
      · exact R.nog z) (fun p => by rw [← hv]; exact R.prm i s hd (hp ▸ p)) (fun C e => by have := hat.owned; rw [e] at this; cases this) hi
  rw [List.set_set, set_self hv] at R2
  exact R2
/-- an owned list is changed -/
theorem Rl.mut (R : Rl K Z Hs H σ δ) {i : Nat} {p : Bool} {xs xs' : List PyData} {a : Addr} {ws' : List V} (h : δ[i]? = some (some (Sl.ow p xs))) (ha : σ[i]? = some (some (V.ref a))) (hd : DpAll K Hs ws' xs') :
    Rl K Z Hs (upd H a (.lst ws')) σ (δ.set i (some (.ow p xs'))) := by
  obtain ⟨a', ws, h1, h2, h3, h4⟩ := R.own i p xs h
  rw [h1] at ha
  cases ha
  have fi : ∀ f, Fps K Z Hs H σ δ f → f i = [a] := fun f F => by
    obtain ⟨v, k1, k2⟩ := F.at_ i _ h rfl
    rw [h1] at k1
    cases k1
    exact k2.uniq (.ow h2 h4)
  refine R.chg (A := [a]) (s' := .ow p xs') h rfl h1 rfl (Same.refl _) (fun b x e => ?_) (fun f F b o n e => ?_) (fun b n => ?_) (fun b n => .inl n) (.ow upd_same hd) (fun f F b m => .inl (by rw [fi f F]; exact m)) (fun b m => by rw [List.mem_singleton.mp m]; exact h3)
  · rw [upd_ne (ne_of_none e h3)]
    exact R.sub b x e
  · rw [fi f F] at n
    rw [upd_ne (fun q => n (List.mem_singleton.mpr q))]
    exact e
  · by_cases q : b = a
    · subst q
      rw [upd_same]
      exact fun z => nomatch z
    · rw [upd_ne q]
      exact n
/-- an owned slot let go -/
theorem Rl.moveA (R : Rl K Z Hs H σ δ) {i : Nat} {s : Sl} (h : δ[i]? = some (some s)) (ho : s.own = true) (hp : s.prm = false) : ∃ v A, σ[i]? = some (some v) ∧ Rl K Z Hs H σ (δ.set i none) ∧ FrA K Z Hs H σ (δ.set i none) v s A := by
  obtain ⟨f, F⟩ := R.fps
  obtain ⟨v, h1, h2⟩ := F.at_ i s h ho
  refine ⟨v, f i, h1, R.erase i, ⟨h2, F.hs i, fun a m => F.mine i s a h hp m, fun f2 F2 j a m m' => ?_, F.g i⟩⟩
  by_cases e : j = i
  · rw [e, F2.emp i fun t z => by
      rcases get_set z with ⟨_, z'⟩ | ⟨ne, _⟩
      · cases z'
      · exact absurd rfl ne] at m'
    exact nomatch m'
  · refine F.dis i j a (fun q => e q.symm) m ?_
    cases q : δ[j]? with
    | none =>
      rw [F2.emp j (fun s z => by rw [List.getElem?_set_ne (fun q => e q.symm), q] at z; cases z)] at m'
      exact nomatch m'
    | some o =>
      cases o with
      | none =>
        rw [F2.emp j (fun s z => by rw [List.getElem?_set_ne (fun q => e q.symm), q] at z; cases z)] at m'
        exact nomatch m'
      | some t =>
        cases ht : t.own with
        | false =>
          rw [F2.emp j (fun s z => by rw [List.getElem?_set_ne (fun q => e q.symm), q] at z; cases z; exact ht)] at m'
          exact nomatch m'
        | true =>
          obtain ⟨u, k1, k2⟩ := F.at_ j t q ht
          obtain ⟨u', k1', k2'⟩ := F2.at_ j t (by rw [List.getElem?_set_ne (fun q => e q.symm)]; exact q) ht
          rw [k1] at k1'
          cases k1'
          rw [← k2'.uniq k2]
          exact m'
theorem Rl.move (R : Rl K Z Hs H σ δ) {i : Nat} {xs : List PyData} (h : δ[i]? = some (some (Sl.ow false xs))) : ∃ v : V, σ[i]? = some (some v) ∧ Rl K Z Hs H σ (δ.set i none) ∧ FrO K Z Hs H σ (δ.set i none) v xs := by
  obtain ⟨v, A, h1, h2, h3⟩ := R.moveA h rfl rfl
  exact ⟨v, h1, h2, A, h3⟩
/-- a new list of one's own is shared -/
theorem FrO.share (R : Rl K Z Hs H σ δ) {v : V} {xs : List PyData} (h : FrO K Z Hs H σ δ v xs) : ∃ Hs', Same Hs Hs' ∧ Rl K Z Hs' H σ δ ∧ Dp K Hs' v (.list xs) := by
  obtain ⟨A, h⟩ := h
  obtain ⟨a, ws, rfl, rfl, h1, h3⟩ := h.lst
  have m : a ∈ [a] := List.mem_singleton.mpr rfl
  have h2 := h.hs a m
  have h4 := h.mine a m
  have e1 : Same Hs (upd Hs a (.lst ws)) := same_new h2
  refine ⟨upd Hs a (.lst ws), e1, ⟨R.len, fun b x e => ?_, R.ext.trans e1, R.fr, fun b n => ?_, fun b e => ?_, fun i d e => ?_, ?_, fun b u mg => ?_, R.prm, R.exn⟩, .lst (SqL.of upd_same) (h3.up e1)⟩
  · by_cases hb : b = a
    · subst hb
      rw [upd_same] at e
      rw [← e]
      exact h1
    · rw [upd_ne hb] at e
      exact R.sub b x e
  · by_cases hb : b = a
    · subst hb
      exact .inr h4.1
    · rw [upd_ne hb] at n
      exact R.new b n
  · obtain ⟨z1, z2⟩ := R.hid b e
    have hb : b ≠ a := fun q => h4.2 (q ▸ e)
    rw [upd_ne hb]
    exact ⟨z1, z2⟩
  · obtain ⟨v, a, b⟩ := R.shr i d e
    exact ⟨v, a, b.up e1⟩
  · obtain ⟨f, F⟩ := R.fps
    refine ⟨f, ⟨fun i s e o => ?_, F.emp, fun i b mb => ?_, F.old, F.mine, F.dis, F.g⟩⟩
    · obtain ⟨u, k1, k2⟩ := F.at_ i s e o
      exact ⟨u, k1, k2.fr e1 fun _ _ => rfl⟩
    · have hb : b ≠ a := fun q => h.dis f F i a m (q ▸ mb)
      rw [upd_ne hb]
      exact F.hs i b mb
  · obtain ⟨g1, g2, g3⟩ := R.grd b u mg
    have hb : b ≠ a := fun z => h.g a u m (z ▸ mg)
    exact ⟨g1, by rw [upd_ne hb]; exact g2, g3⟩
end
end DL

namespace DL
open PySem PySem.Spec L2

/-! ### judgements by data -/
abbrev DE := DSt → (PyData → DSt → Prop) → Prop
abbrev DT := DSt → (Bool → DSt → Prop) → Prop
abbrev DL' := DSt → (List PyData → DSt → Prop) → Prop
def lE (K : Fg) (Z : Ent) (t : DE) : TE := fun σ H Q => ∃ Hs δ, Rl K Z Hs H σ δ ∧ t δ fun d δ' => ∀ v Hs' H', Same Hs Hs' → Rl K Z Hs' H' σ δ' → Dp K Hs' v d → Q v H'
def lT (K : Fg) (Z : Ent) (t : DT) : TT := fun σ H Q => ∃ Hs δ, Rl K Z Hs H σ δ ∧ t δ fun b δ' => ∀ Hs' H', Same Hs Hs' → Rl K Z Hs' H' σ δ' → Q b H'
def lO (K : Fg) (Z : Ent) (t : DL') : TE := fun σ H Q => ∃ Hs δ, Rl K Z Hs H σ δ ∧ t δ fun xs δ' => ∀ v Hs' H', Same Hs Hs' → Rl K Z Hs' H' σ δ' → FrO K Z Hs' H' σ δ' v xs → Q v H'
def lA (K : Fg) (Z : Ent) (t : DL') : TA := fun σ H Q => ∃ Hs δ, Rl K Z Hs H σ δ ∧ t δ fun ds δ' => ∀ vs Hs' H', Same Hs Hs' → Rl K Z Hs' H' σ δ' → DpAll K Hs' vs ds → Q vs H'
structure De (X : Cx) (Z : Ent) (e : Expr) (t : DE) : Prop where
  run : PE X e (lE X.K Z t)
  mono : ∀ (δ : DSt) (Q Q' : PyData → DSt → Prop), (∀ d δ', Q d δ' → Q' d δ') → t δ Q → t δ Q'
structure Dt (X : Cx) (Z : Ent) (e : Expr) (t : DT) : Prop where
  run : PT X e (lT X.K Z t)
  mono : ∀ (δ : DSt) (Q Q' : Bool → DSt → Prop), (∀ d δ', Q d δ' → Q' d δ') → t δ Q → t δ Q'
structure Dw (X : Cx) (Z : Ent) (e : Expr) (t : DT) : Prop where
  run : PW X e (lT X.K Z t)
  mono : ∀ (δ : DSt) (Q Q' : Bool → DSt → Prop), (∀ d δ', Q d δ' → Q' d δ') → t δ Q → t δ Q'
structure Do (X : Cx) (Z : Ent) (e : Expr) (t : DL') : Prop where
  run : PE X e (lO X.K Z t)
  mono : ∀ (δ : DSt) (Q Q' : List PyData → DSt → Prop), (∀ d δ', Q d δ' → Q' d δ') → t δ Q → t δ Q'
structure Da (X : Cx) (Z : Ent) (es : List Expr) (t : DL') : Prop where
  run : PA X es (lA X.K Z t)
  mono : ∀ (δ : DSt) (Q Q' : List PyData → DSt → Prop), (∀ d δ', Q d δ' → Q' d δ') → t δ Q → t δ Q'
theorem pe_imp {X : Cx} {e : Expr} {t t' : TE} (h : PE X e t) (i : ∀ σ H Q, t' σ H Q → t σ H Q) : PE X e t' := ⟨fun pins s σ H Q I h' => h.run pins s σ H Q I (i σ H Q h')⟩
theorem pt_imp {X : Cx} {e : Expr} {t t' : TT} (h : PT X e t) (i : ∀ σ H Q, t' σ H Q → t σ H Q) : PT X e t' := ⟨fun pins s σ H Q I h' => h.run pins s σ H Q I (i σ H Q h')⟩
theorem pw_imp {X : Cx} {e : Expr} {t t' : TT} (h : PW X e t) (i : ∀ σ H Q, t' σ H Q → t σ H Q) : PW X e t' := ⟨fun w pins s σ H Q I h' => h.run w pins s σ H Q I (i σ H Q h')⟩
theorem pa_imp {X : Cx} {e : List Expr} {t t' : TA} (h : PA X e t) (i : ∀ σ H Q, t' σ H Q → t σ H Q) : PA X e t' := ⟨fun p pins s σ H Q I h' => h.run p pins s σ H Q I (i σ H Q h')⟩
theorem ps_imp {X : Cx} {e : Stmt} {t t' : TS} (h : PS X e t) (i : ∀ D σ H, t' D σ H → t D σ H) : PS X e t' := ⟨fun pins s σ H D I h' => h.run pins s σ H D I (i D σ H h')⟩
theorem pss_imp {X : Cx} {e : List Stmt} {t t' : TS} (h : PSs X e t) (i : ∀ D σ H, t' D σ H → t D σ H) : PSs X e t' := ⟨fun pins s σ H D I h' => h.run pins s σ H D I (i D σ H h')⟩

section
variable {X : Cx} {Z : Ent} {pos : Pos}
/-! ### names, constants -/
/-- a name: shared data, or a list of one's own that is shared from here on -/
def dVar (i : Nat) : DE := fun δ Q => match δ[i]? with
  | some (some (.sh d)) => Q d δ
  | some (some (.ow false xs)) => Q (.list xs) (δ.set i (some (.sh (.list xs))))
  | _ => False
theorem de_var (i : Nat) {x : Str} (hN : X.N[i]? = some x := by rfl) (hv : Vis X.env.scope x := by first | exact Or.inl rfl | exact Or.inr (Or.inl rfl) | exact Or.inr (Or.inr rfl)) (hd : (x == ("__debug__" : Str)) = false := by decide)
    (hcd : (x == ("__classdict__" : Str)) = false := by decide) : De X Z (.Name x pos) (dVar i) := by
  refine ⟨pe_imp (pe_var hN hv hd hcd) fun σ H Q ⟨Hs, δ, R, h⟩ => ?_, fun δ Q Q' hq h => ?_⟩
  · unfold dVar at h
    split at h
    · rename_i d e
      obtain ⟨v, h1, h2⟩ := R.shr i d e
      exact ⟨v, h1, h v Hs H (Same.refl _) R h2⟩
    · rename_i xs e
      obtain ⟨v, h1, R1, f⟩ := R.move e
      obtain ⟨Hs', s1, R2, dp⟩ := f.share R1
      refine ⟨v, h1, h v Hs' H s1 ?_ dp⟩
      have R3 := R2.set (i := i) dp
      rw [set_self h1, List.set_set] at R3
      exact R3
    · exact h.elim
  · unfold dVar at h ⊢
    split at h
    · exact hq _ _ h
    · exact hq _ _ h
    · exact h
/-- an owned list handed on -/
def dMove (i : Nat) : DL' := fun δ Q => match δ[i]? with
  | some (some (.ow false xs)) => Q xs (δ.set i none)
  | _ => False
theorem do_var (i : Nat) {x : Str} (hN : X.N[i]? = some x := by rfl) (hv : Vis X.env.scope x := by first | exact Or.inl rfl | exact Or.inr (Or.inl rfl) | exact Or.inr (Or.inr rfl)) (hd : (x == ("__debug__" : Str)) = false := by decide)
    (hcd : (x == ("__classdict__" : Str)) = false := by decide) : Do X Z (.Name x pos) (dMove i) := by
  refine ⟨pe_imp (pe_var hN hv hd hcd) fun σ H Q ⟨Hs, δ, R, h⟩ => ?_, fun δ Q Q' hq h => ?_⟩
  · unfold dMove at h
    split at h
    · rename_i xs e
      obtain ⟨v, h1, R1, f⟩ := R.move e
      exact ⟨v, h1, h v Hs H (Same.refl _) R1 f⟩
    · exact h.elim
  · unfold dMove at h ⊢
    split at h
    · exact hq _ _ h
    · exact h
def dC (d : PyData) : DE := fun δ Q => Q d δ
theorem de_c {e : Expr} {v : V} {d : PyData} (h : PE X e (tC v)) (hd : ∀ H, Dp X.K H v d) : De X Z e (dC d) :=
  ⟨pe_imp h fun σ H Q ⟨Hs, δ, R, q⟩ => q v Hs H (Same.refl _) R (hd Hs), fun δ Q Q' hq h => hq _ _ h⟩
theorem de_int {i : Int} {j} : De X Z (.Constant (.int i) j pos) (dC (.int i)) := de_c pe_int fun _ => .int i
theorem de_bl {b : Bool} {j} : De X Z (.Constant (.bool b) j pos) (dC (.bool b)) := de_c pe_bl fun _ => .bl b
theorem de_non {j} : De X Z (.Constant .none j pos) (dC .none) := de_c pe_non fun _ => .non
theorem de_str {x : Str} {j} : De X Z (.Constant (.str x) j pos) (dC (.str x)) := de_c pe_str fun _ => .str x
/-- a constant of the module -/
theorem de_glob {x : Str} {v : V} {u : Value} {d : PyData} (hg : Gl X x) (hm : X.mg x = some u) (r : RelV v u) (hd : ∀ H, Dp X.K H v d) (hdb : (x == ("__debug__" : Str)) = false := by decide) : De X Z (.Name x pos) (dC d) := de_c (pe_glob hg hm r hdb) hd
/-- a new list shared at once -/
def dShare (t : DL') : DE := fun δ Q => t δ fun xs δ' => Q (.list xs) δ'
theorem Do.sh {e : Expr} {t : DL'} (h : Do X Z e t) : De X Z e (dShare t) := by
  refine ⟨pe_imp h.run fun σ H Q ⟨Hs, δ, R, q⟩ => ⟨Hs, δ, R, h.mono _ _ _ (fun xs δ' q v Hs' H' s1 R1 f => ?_) q⟩, fun δ Q Q' hq q => h.mono _ _ _ (fun _ _ z => hq _ _ z) q⟩
  obtain ⟨Hs2, s2, R2, dp⟩ := f.share R1
  exact q v Hs2 H' (s1.trans s2) R2 dp

/-! ### arguments, displays -/
def dNil : DL' := fun δ Q => Q [] δ
def dCons (t : DE) (r : DL') : DL' := fun δ Q => t δ fun d δ1 => r δ1 fun ds δ2 => Q (d :: ds) δ2
theorem da_nil : Da X Z [] dNil := ⟨pa_imp pa_nil fun σ H Q ⟨Hs, δ, R, q⟩ => q [] Hs H (Same.refl _) R .nil, fun δ Q Q' hq h => hq _ _ h⟩
theorem da_cons {e : Expr} {es : List Expr} {t : DE} {r : DL'} (h : De X Z e t) (hr : Da X Z es r) (hs : starEach (e :: es) X.env = (false, eval e X.env) :: starEach es X.env := by rfl) : Da X Z (e :: es) (dCons t r) := by
  refine ⟨pa_imp (pa_cons h.run hr.run hs) fun σ H Q ⟨Hs, δ, R, q⟩ => ⟨Hs, δ, R, h.mono _ _ _ (fun d δ1 q v Hs1 H1 s1 R1 dp => ⟨Hs1, δ1, R1, hr.mono _ _ _ (fun ds δ2 q vs Hs2 H2 s2 R2 dps => ?_) q⟩) q⟩,
    fun δ Q Q' hq q => h.mono _ _ _ (fun _ _ z => hr.mono _ _ _ (fun _ _ z => hq _ _ z) z) q⟩
  exact q (v :: vs) Hs2 H2 (s1.trans s2) R2 (.cons (dp.up s2) dps)
def dTup (t : DL') : DE := fun δ Q => t δ fun ds δ' => ds.length ≤ sizeLine ∧ Q (.tuple ds) δ'
theorem de_tup {es : List Expr} {t : DL'} {x1} (h : Da X Z es t) : De X Z (.Tuple es x1 pos) (dTup t) := by
  refine ⟨pe_imp (pe_tup h.run) fun σ H Q ⟨Hs, δ, R, q⟩ => ⟨Hs, δ, R, h.mono _ _ _ (fun ds δ1 q vs Hs1 H1 s1 R1 dps => ⟨by rw [dps.len]; exact q.1, fun p np => ?_⟩) q⟩, fun δ Q Q' hq q => h.mono _ _ _ (fun _ _ z => ⟨z.1, hq _ _ z.2⟩) q⟩
  have s2 : Same Hs1 (upd Hs1 p (.tup vs)) := same_new (R1.hsn np)
  exact q.2 (.ref p) _ _ (s1.trans s2) (R1.alloc np) (.tup (SqT.of upd_same) (dps.up s2))
def dLst (t : DL') : DL' := fun δ Q => t δ fun ds δ' => ds.length ≤ sizeLine ∧ Q ds δ'
theorem do_lst {es : List Expr} {t : DL'} (h : Da X Z es t) : Do X Z (.List es pos) (dLst t) := by
  refine ⟨pe_imp (pe_lst h.run) fun σ H Q ⟨Hs, δ, R, q⟩ => ⟨Hs, δ, R, h.mono _ _ _ (fun ds δ1 q vs Hs1 H1 s1 R1 dps => ⟨by rw [dps.len]; exact q.1, fun p np => ?_⟩) q⟩, fun δ Q Q' hq q => h.mono _ _ _ (fun _ _ z => ⟨z.1, hq _ _ z.2⟩) q⟩
  exact q.2 (.ref p) Hs1 _ s1 (R1.allocO np) (FrO.new R1 np dps)

/-! ### operators -/
abbrev D2 := PyData → PyData → (PyData → Prop) → Prop
structure OpD (X : Cx) (Z : Ent) (f : Value → Value → Sem Value) (r : D2) : Prop where
  ex : ∃ r0 : R2, OpR X f r0 ∧ ∀ (d e : PyData) (x y : V) (Hs H : Hp) (σ : St) (δ : DSt) (Q : VK), Rl X.K Z Hs H σ δ → Dp X.K Hs x d → Dp X.K Hs y e →
    r d e (fun z => ∀ v Hs' H', Same Hs Hs' → Rl X.K Z Hs' H' σ δ → Dp X.K Hs' v z → Q v H') → r0 x y H Q
  mono : ∀ (d e : PyData) (Q Q' : PyData → Prop), (∀ z, Q z → Q' z) → r d e Q → r d e Q'
theorem OpD.or {f : Value → Value → Sem Value} {r r' : D2} (h : OpD X Z f r) (h' : OpD X Z f r') : OpD X Z f (fun d e Q => r d e Q ∨ r' d e Q) := by
  obtain ⟨r0, a, b⟩ := h.ex
  obtain ⟨r1, a', b'⟩ := h'.ex
  refine ⟨⟨_, a.or a', fun d e x y Hs H σ δ Q R dx dy q => ?_⟩, fun d e Q Q' hq q => ?_⟩
  · rcases q with q | q
    · exact .inl (b d e x y Hs H σ δ Q R dx dy q)
    · exact .inr (b' d e x y Hs H σ δ Q R dx dy q)
  · rcases q with q | q
    · exact .inl (h.mono d e Q Q' hq q)
    · exact .inr (h'.mono d e Q Q' hq q)
theorem OpD.imp {f : Value → Value → Sem Value} {r r' : D2} (h : OpD X Z f r) (i : ∀ d e Q, r' d e Q → r d e Q) (m : ∀ (d e : PyData) (Q Q' : PyData → Prop), (∀ z, Q z → Q' z) → r' d e Q → r' d e Q') : OpD X Z f r' := by
  obtain ⟨r0, a, b⟩ := h.ex
  exact ⟨⟨r0, a, fun d e x y Hs H σ δ Q R dx dy q => b d e x y Hs H σ δ Q R dx dy (i _ _ _ q)⟩, m⟩
def dOp (r : D2) (ta tb : DE) : DE := fun δ Q => ta δ fun d δ1 => tb δ1 fun e δ2 => r d e fun z => Q z δ2
theorem de_opP {a b e : Expr} {ta tb : DE} {r : D2} {f : Value → Value → Sem Value} (ho : OpD X Z f r) (ha : De X Z a ta) (hb : De X Z b tb) (hp : ∀ r0 : R2, OpR X f r0 → PE X e (tOp r0 (lE X.K Z ta) (lE X.K Z tb))) : De X Z e (dOp r ta tb) := by
  obtain ⟨r0, h0, h1⟩ := ho.ex
  refine ⟨pe_imp (hp r0 h0) fun σ H Q ⟨Hs, δ, R, q⟩ => ⟨Hs, δ, R, ha.mono _ _ _ (fun d δ1 q v Hs1 H1 s1 R1 dp => ⟨Hs1, δ1, R1, hb.mono _ _ _ (fun d2 δ2 q v2 Hs2 H2 s2 R2 dp2 => ?_) q⟩) q⟩,
    fun δ Q Q' hq q => ha.mono _ _ _ (fun _ _ z => hb.mono _ _ _ (fun _ _ z => ho.mono _ _ _ _ (fun _ z => hq _ _ z) z) z) q⟩
  refine h1 d d2 v v2 Hs2 H2 σ δ2 Q R2 (dp.up s2) dp2 (ho.mono _ _ _ _ (fun z q v3 Hs3 H3 s3 R3 dp3 => ?_) q)
  exact q v3 Hs3 H3 ((s1.trans s2).trans s3) R3 dp3
theorem de_op {a b : Expr} {ta tb : DE} {r : D2} {op : Operator} (ho : OpD X Z (binaryOp op) r) (ha : De X Z a ta) (hb : De X Z b tb) : De X Z (.BinOp a op b pos) (dOp r ta tb) := de_opP ho ha hb fun _ h => pe_op h ha.run hb.run
theorem de_cmp {a b : Expr} {ta tb : DE} {r : D2} {op : CmpOp} (ho : OpD X Z (compareOp op) r) (ha : De X Z a ta) (hb : De X Z b tb) (hm : behindInMarks op b = false := by first | exact nomark _ | rfl) : De X Z (.Compare a [op] [b] pos) (dOp r ta tb) := de_opP ho ha hb fun _ h => pe_cmpR h ha.run hb.run hm
/-- two ints -/
def rII (C : Int → Int → Prop) (g : Int → Int → PyData) : D2 := fun d e Q => match d, e with
  | .int i, .int j => C i j ∧ Q (g i j)
  | _, _ => False
theorem rII_mono {C : Int → Int → Prop} {g : Int → Int → PyData} (d e : PyData) (Q Q' : PyData → Prop) (h : ∀ z, Q z → Q' z) (q : rII C g d e Q) : rII C g d e Q' := by
  unfold rII at q ⊢
  split at q
  · exact ⟨q.1, h _ q.2⟩
  · exact q
theorem opd_I {f : Value → Value → Sem Value} {C : Int → Int → Prop} {g : Int → Int → V} {g' : Int → Int → PyData} (h : OpR X f (rI C g)) (hd : ∀ i j H, Dp X.K H (g i j) (g' i j)) : OpD X Z f (rII C g') := by
  refine ⟨⟨_, h, fun d e x y Hs H σ δ Q R dx dy q => ?_⟩, rII_mono⟩
  unfold rII at q
  split at q
  · rename_i i j
    cases dx
    cases dy
    exact ⟨i, j, rfl, rfl, q.1, q.2 _ Hs H (Same.refl _) R (hd i j Hs)⟩
  · exact q.elim
theorem opd_I0 {f : Value → Value → Sem Value} {g : Int → Int → V} {g' : Int → Int → PyData} (h : OpR X f (rI0 g)) (hd : ∀ i j H, Dp X.K H (g i j) (g' i j)) : OpD X Z f (rII (fun _ _ => True) g') := by
  refine ⟨⟨_, h, fun d e x y Hs H σ δ Q R dx dy q => ?_⟩, rII_mono⟩
  unfold rII at q
  split at q
  · rename_i i j
    cases dx
    cases dy
    exact ⟨i, j, rfl, rfl, q.2 _ Hs H (Same.refl _) R (hd i j Hs)⟩
  · exact q.elim
abbrev rAddI : D2 := rII (fun _ _ => True) fun i j => .int (i + j)
abbrev rSubI : D2 := rII (fun _ _ => True) fun i j => .int (i - j)
abbrev rMulI : D2 := rII CMulW fun i j => .int (i * j)
/-- // by a divisor other than 0, of less than 9000 bits -/
def CDivA (_ j : Int) : Prop := j ≠ 0 ∧ j.natAbs.log2 < 9000
abbrev rDivI : D2 := rII CDivA fun i j => .int (i.fdiv j)
abbrev rModI : D2 := rII (fun _ j => j ≠ 0) fun i j => .int (i.fmod j)
abbrev rPowI : D2 := rII CPow fun i j => .int (i ^ j.toNat)
abbrev rShlI : D2 := rII CPow fun i j => .int (i * 2 ^ j.toNat)
theorem op_fdivA : OpR X (binaryOp .FloorDiv) (rI CDivA fun i j => .int (i.fdiv j)) := opI fun i j _ _ _ _ _ hc q => PyProof.Rows.floordiv_int hc.1 q (.inl (PyProof.noPylong_of_log2 hc.2))
theorem od_add : OpD X Z (binaryOp .Add) rAddI := opd_I0 op_add fun _ _ _ => .int _
theorem od_sub : OpD X Z (binaryOp .Sub) rSubI := opd_I0 op_sub fun _ _ _ => .int _
theorem od_mul : OpD X Z (binaryOp .Mult) rMulI := opd_I op_mulW fun _ _ _ => .int _
theorem od_div : OpD X Z (binaryOp .FloorDiv) rDivI := opd_I op_fdivA fun _ _ _ => .int _
theorem od_mod : OpD X Z (binaryOp .Mod) rModI := opd_I op_modN fun _ _ _ => .int _
theorem od_pow : OpD X Z (binaryOp .Pow) rPowI := opd_I op_pow fun _ _ _ => .int _
theorem od_shl : OpD X Z (binaryOp .LShift) rShlI := opd_I op_shl fun _ _ _ => .int _
theorem od_lt : OpD X Z (compareOp .Lt) (rII (fun _ _ => True) fun i j => .bool (decide (i < j))) := opd_I0 op_lt fun _ _ _ => .bl _
theorem od_le : OpD X Z (compareOp .LtE) (rII (fun _ _ => True) fun i j => .bool (decide (i ≤ j))) := opd_I0 op_le fun _ _ _ => .bl _
theorem od_gt : OpD X Z (compareOp .Gt) (rII (fun _ _ => True) fun i j => .bool (decide (j < i))) := opd_I0 op_gt fun _ _ _ => .bl _
theorem od_ge : OpD X Z (compareOp .GtE) (rII (fun _ _ => True) fun i j => .bool (decide (j ≤ i))) := opd_I0 op_ge fun _ _ _ => .bl _
def rEqq : D2 := fun d e Q => SeqAt.shaped d = true ∧ SeqAt.shaped e = true ∧ Q (.bool (PyData.eqv d e))
def rNeq : D2 := fun d e Q => SeqAt.shaped d = true ∧ SeqAt.shaped e = true ∧ Q (.bool (!PyData.eqv d e))
theorem Rl.up {K : Fg} {Hs H : Hp} {σ : St} {δ : DSt} {v : V} {d : PyData} (R : Rl K Z Hs H σ δ) (h : Dp K Hs v d) : Dp K H v d := h.up R.sub
theorem od_eq (hu : X.A.units + 64 < cLine) : OpD X Z (compareOp .Eq) rEqq :=
  ⟨⟨_, op_eqD hu, fun d e x y Hs H σ δ Q R dx dy q => ⟨d, e, (R.up dx).lb q.1, (R.up dy).lb q.2.1, q.1, q.2.1, q.2.2 _ Hs H (Same.refl _) R (.bl _)⟩⟩, fun d e Q Q' hq q => ⟨q.1, q.2.1, hq _ q.2.2⟩⟩
theorem od_ne (hu : X.A.units + 64 < cLine) : OpD X Z (compareOp .NotEq) rNeq :=
  ⟨⟨_, op_neD hu, fun d e x y Hs H σ δ Q R dx dy q => ⟨d, e, (R.up dx).lb q.1, (R.up dy).lb q.2.1, q.1, q.2.1, q.2.2 _ Hs H (Same.refl _) R (.bl _)⟩⟩, fun d e Q Q' hq q => ⟨q.1, q.2.1, hq _ q.2.2⟩⟩
/-- is None -/
def isNone : PyData → Bool
  | .none => true
  | _ => false
theorem isNone_dp {K : Fg} {H : Hp} {v : V} {d : PyData} (h : Dp K H v d) : decide (v = .non) = isNone d := by
  cases h <;> rfl
def rIsN : D2 := fun d e Q => e = .none ∧ Q (.bool (isNone d))
def rNotN : D2 := fun d e Q => e = .none ∧ Q (.bool (!isNone d))
theorem od_is : OpD X Z (compareOp .Is) rIsN := by
  refine ⟨⟨_, op_isN, fun d e x y Hs H σ δ Q R dx dy q => ?_⟩, fun d e Q Q' hq q => ⟨q.1, hq _ q.2⟩⟩
  obtain ⟨rfl, q⟩ := q
  cases dy
  refine ⟨rfl, ?_⟩
  rw [isNone_dp dx]
  exact q _ Hs H (Same.refl _) R (.bl _)
theorem od_isnot : OpD X Z (compareOp .IsNot) rNotN := by
  refine ⟨⟨_, op_notN, fun d e x y Hs H σ δ Q R dx dy q => ?_⟩, fun d e Q Q' hq q => ⟨q.1, hq _ q.2⟩⟩
  obtain ⟨rfl, q⟩ := q
  cases dy
  refine ⟨rfl, ?_⟩
  rw [isNone_dp dx]
  exact q _ Hs H (Same.refl _) R (.bl _)
/-- a subscript -/
def rIx : D2 := fun d e Q => match d, e with
  | .tuple xs, .int i => ∃ z, atI xs i = some z ∧ Q z
  | .list xs, .int i => ∃ z, atI xs i = some z ∧ Q z
  | _, _ => False
theorem atI_dp {K : Fg} {H : Hp} {vs : List V} {ds : List PyData} {i : Int} {z : PyData} (h : DpAll K H vs ds) (e : atI ds i = some z) : ∃ v, atI vs i = some v ∧ Dp K H v z := by
  unfold atI at e ⊢
  rw [h.len]
  cases q : ixN ds.length i with
  | none => rw [q] at e; cases e
  | some j =>
    rw [q] at e
    exact h.get e
theorem de_ix {a b : Expr} {ta tb : DE} (ha : De X Z a ta) (hb : De X Z b tb) (hs : PlainIx b := by exact fun _ _ => rfl) : De X Z (.Subscript a b pos) (dOp rIx ta tb) := by
  have mono : ∀ (d e : PyData) (Q Q' : PyData → Prop), (∀ z, Q z → Q' z) → rIx d e Q → rIx d e Q' := fun d e Q Q' hq q => by
    unfold rIx at q ⊢
    split at q
    · obtain ⟨z, a, b⟩ := q
      exact ⟨z, a, hq _ b⟩
    · obtain ⟨z, a, b⟩ := q
      exact ⟨z, a, hq _ b⟩
    · exact q
  refine ⟨pe_imp (pe_ix ix_seq ha.run hb.run hs) fun σ H Q ⟨Hs, δ, R, q⟩ => ⟨Hs, δ, R, ha.mono _ _ _ (fun d δ1 q v Hs1 H1 s1 R1 dp => ⟨Hs1, δ1, R1, hb.mono _ _ _ (fun d2 δ2 q v2 Hs2 H2 s2 R2 dp2 => ?_) q⟩) q⟩,
    fun δ Q Q' hq q => ha.mono _ _ _ (fun _ _ z => hb.mono _ _ _ (fun _ _ z => mono _ _ _ _ (fun _ z => hq _ _ z) z) z) q⟩
  unfold rIx at q
  split at q
  · rename_i xs i
    obtain ⟨z, e, q⟩ := q
    cases dp2
    cases dp.up s2 with
    | tup hs ha =>
      obtain ⟨v, e1, e2⟩ := atI_dp ha e
      exact .inr (.inl ⟨_, _, _, v, rfl, rfl, sqt_mono R2.sub hs, e1, q v Hs2 H2 (s1.trans s2) R2 e2⟩)
  · rename_i xs i
    obtain ⟨z, e, q⟩ := q
    cases dp2
    cases dp.up s2 with
    | lst hs ha =>
      obtain ⟨v, e1, e2⟩ := atI_dp ha e
      exact .inl ⟨_, _, _, v, rfl, rfl, R2.sub.seq hs, e1, q v Hs2 H2 (s1.trans s2) R2 e2⟩
  · exact q.elim
/-- a subscript of a name: a list of one's own, or shared -/
def dIxO (i : Nat) (tb : DE) : DE := fun δ Q => match δ[i]? with
  | some (some _) => tb δ fun e δ' => match e, δ'[i]? with
    | .int j, some (some (.ow _ xs)) => ∃ z, atI xs j = some z ∧ Q z δ'
    | .int j, some (some (.sh d)) => rIx d (.int j) fun z => Q z δ'
    | _, _ => False
  | _ => False
theorem rIx_mono (d e : PyData) (Q Q' : PyData → Prop) (hq : ∀ z, Q z → Q' z) (q : rIx d e Q) : rIx d e Q' := by
  unfold rIx at q ⊢
  split at q
  · obtain ⟨z, a, b⟩ := q
    exact ⟨z, a, hq _ b⟩
  · obtain ⟨z, a, b⟩ := q
    exact ⟨z, a, hq _ b⟩
  · exact q
theorem ix_run {Hs H : Hp} {σ : St} {δ : DSt} {x y : V} {d e : PyData} {Q : VK} (R : Rl X.K Z Hs H σ δ) (dx : Dp X.K Hs x d) (dy : Dp X.K Hs y e) (q : rIx d e fun z => ∀ v, Dp X.K Hs v z → Q v H) : L2.rIx X.K x y H Q := by
  unfold rIx at q
  split at q
  · rename_i xs i
    obtain ⟨z, e, q⟩ := q
    cases dy
    cases dx with
    | tup hs ha =>
      obtain ⟨v, e1, e2⟩ := atI_dp ha e
      exact .inr (.inl ⟨_, _, _, v, rfl, rfl, sqt_mono R.sub hs, e1, q v e2⟩)
  · rename_i xs i
    obtain ⟨z, e, q⟩ := q
    cases dy
    cases dx with
    | lst hs ha =>
      obtain ⟨v, e1, e2⟩ := atI_dp ha e
      exact .inl ⟨_, _, _, v, rfl, rfl, R.sub.seq hs, e1, q v e2⟩
  · exact q.elim
theorem Rl.thereS {K : Fg} {Hs H : Hp} {σ : St} {δ : DSt} (R : Rl K Z Hs H σ δ) {i : Nat} {s : Sl} (h : δ[i]? = some (some s)) : ∃ v, σ[i]? = some (some v) := by
  cases s with
  | sh d => obtain ⟨v, e, _⟩ := R.shr i d h; exact ⟨v, e⟩
  | ow p xs => obtain ⟨a, _, e, _⟩ := R.own i p xs h; exact ⟨_, e⟩
  | ob p o =>
    obtain ⟨f, F⟩ := R.fps
    obtain ⟨v, e, _⟩ := F.at_ i _ h rfl
    exact ⟨v, e⟩
  | xn C => obtain ⟨a, e, _⟩ := R.exn i C h; exact ⟨_, e⟩
theorem de_ixo (i : Nat) {x : Str} {b : Expr} {tb : DE} {p1 : Pos} (hb : De X Z b tb) (hN : X.N[i]? = some x := by rfl) (hv : Vis X.env.scope x := by first | exact Or.inl rfl | exact Or.inr (Or.inl rfl) | exact Or.inr (Or.inr rfl)) (hs : PlainIx b := by exact fun _ _ => rfl)
    (hd : (x == ("__debug__" : Str)) = false := by decide) (hcd : (x == ("__classdict__" : Str)) = false := by decide) : De X Z (.Subscript (.Name x p1) b pos) (dIxO i tb) := by
  refine ⟨pe_imp (pe_ix ix_seq (pe_var hN hv hd hcd) hb.run hs) fun σ H Q ⟨Hs, δ, R, q⟩ => ?_, fun δ Q Q' hq q => ?_⟩
  · unfold dIxO at q
    split at q
    · rename_i s0 e0
      obtain ⟨v0, hv⟩ := R.thereS e0
      refine ⟨_, hv, Hs, δ, R, hb.mono _ _ _ (fun d2 δ2 q v2 Hs2 H2 s2 R2 dp2 => ?_) q⟩
      split at q
      · rename_i j pp xs e
        obtain ⟨z, e1, q⟩ := q
        obtain ⟨a, ws, h1, h2, h3, h4⟩ := R2.own _ _ _ e
        rw [hv] at h1
        cases h1
        cases dp2
        obtain ⟨v, e2, e3⟩ := atI_dp h4 e1
        exact .inl ⟨_, _, _, v, rfl, rfl, SqL.of h2, e2, q v Hs2 H2 s2 R2 e3⟩
      · rename_i j d e
        obtain ⟨v, h1, h2⟩ := R2.shr _ _ e
        rw [hv] at h1
        cases h1
        exact ix_run R2 h2 dp2 (rIx_mono _ _ _ _ (fun z q v dv => q v Hs2 H2 s2 R2 dv) q)
      · exact q.elim
    · exact q.elim
  · unfold dIxO at q ⊢
    split at q
    · refine hb.mono _ _ _ (fun d δ' z => ?_) q
      split at z
      · obtain ⟨w, a, b⟩ := z
        exact ⟨w, a, hq _ _ b⟩
      · exact rIx_mono _ _ _ _ (fun _ z => hq _ _ z) z
      · exact z
    · exact q
end
end DL

namespace DL
open PySem PySem.Spec L2
section
variable {X : Cx} {Z : Ent} {pos : Pos}
/-! ### truth -/
def tru : PyData → Option Bool
  | .none => some false
  | .bool b => some b
  | .int i => some (i != 0)
  | .str y => if y.length ≤ sizeLine then some ((y.length : Int) != 0) else none
  | .list xs => some (!xs.isEmpty)
  | .tuple xs => some (!xs.isEmpty)
  | .dict _ => none
theorem isEmpty_dp {K : Fg} {H : Hp} {vs : List V} {ds : List PyData} (h : DpAll K H vs ds) : vs.isEmpty = ds.isEmpty := by
  cases h <;> rfl
theorem tru_dp {K : Fg} {H : Hp} {v : V} {d : PyData} {k : Bool} (h : Dp K H v d) (e : tru d = some k) : TruV K v H k := by
  cases h with
  | non => exact (Option.some.inj e).symm
  | bl b => exact (Option.some.inj e).symm
  | int i => exact (Option.some.inj e).symm
  | str x =>
    have e' : (if x.length ≤ sizeLine then some ((x.length : Int) != 0) else none) = some k := e
    split at e'
    · rename_i hl
      exact ⟨hl, (Option.some.inj e').symm⟩
    · cases e'
  | lst hs ha => exact .inl ⟨_, hs, by rw [isEmpty_dp ha]; exact (Option.some.inj e).symm⟩
  | tup hs ha => exact .inr (.inl ⟨_, hs, by rw [isEmpty_dp ha]; exact (Option.some.inj e).symm⟩)
  | ins _ _ _ _ _ => exact nomatch e
  | dct _ _ _ => exact nomatch e
def dTru (t : DE) : DT := fun δ Q => t δ fun d δ' => ∃ k, tru d = some k ∧ Q k δ'
theorem dt_val {a : Expr} {t : DE} (h : De X Z a t) (he : ∀ whole, isTrue a X.env whole = (do let v ← whole; standAt a.pos; holding [v] (truthy v)) := by intro _; rfl) : Dt X Z a (dTru t) := by
  refine ⟨pt_imp (pt_truth h.run he) fun σ H Q ⟨Hs, δ, R, q⟩ => ⟨Hs, δ, R, h.mono _ _ _ (fun d δ1 q v Hs1 H1 s1 R1 dp => ?_) q⟩, fun δ Q Q' hq q => h.mono _ _ _ (fun d δ' ⟨k, e, z⟩ => ⟨k, e, hq _ _ z⟩) q⟩
  obtain ⟨k, e, q⟩ := q
  exact ⟨k, tru_dp (R1.up dp) e, q Hs1 H1 s1 R1⟩
/-- a comparison as a test: it gives a truth -/
def dTst (t : DE) : DT := fun δ Q => t δ fun d δ' => match d with
  | .bool k => Q k δ'
  | _ => False
theorem dt_cmpP {e : Expr} {t : DE} {t0 : TE} (h : De X Z e t) (hp : PT X e (tTest t0)) (hi : ∀ σ H Q, lE X.K Z t σ H Q → t0 σ H Q) : Dt X Z e (dTst t) := by
  refine ⟨pt_imp hp fun σ H Q ⟨Hs, δ, R, q⟩ => hi _ _ _ ⟨Hs, δ, R, h.mono _ _ _ (fun d δ1 q v Hs1 H1 s1 R1 dp => ?_) q⟩, fun δ Q Q' hq q => h.mono _ _ _ (fun d δ' z => ?_) q⟩
  · split at q
    · cases dp
      exact ⟨_, rfl, q Hs1 H1 s1 R1⟩
    · exact q.elim
  · split at z
    · exact hq _ _ z
    · exact z
theorem lE_op {ta tb : DE} {r : D2} {r0 : R2} {a b : Expr} (ha : De X Z a ta) (hb : De X Z b tb) (hm : ∀ (d e : PyData) (Q Q' : PyData → Prop), (∀ z, Q z → Q' z) → r d e Q → r d e Q') (h1 : ∀ (d e : PyData) (x y : V) (Hs H : Hp) (σ : St) (δ : DSt) (Q : VK), Rl X.K Z Hs H σ δ → Dp X.K Hs x d → Dp X.K Hs y e →
    r d e (fun z => ∀ v Hs' H', Same Hs Hs' → Rl X.K Z Hs' H' σ δ → Dp X.K Hs' v z → Q v H') → r0 x y H Q) : ∀ σ H Q, lE X.K Z (dOp r ta tb) σ H Q → tOp r0 (lE X.K Z ta) (lE X.K Z tb) σ H Q := fun σ H Q ⟨Hs, δ, R, q⟩ => by
  refine ⟨Hs, δ, R, ha.mono _ _ _ (fun d δ1 q v Hs1 H1 s1 R1 dp => ⟨Hs1, δ1, R1, hb.mono _ _ _ (fun d2 δ2 q v2 Hs2 H2 s2 R2 dp2 => ?_) q⟩) q⟩
  refine h1 d d2 v v2 Hs2 H2 σ δ2 Q R2 (dp.up s2) dp2 (hm _ _ _ _ (fun z q v3 Hs3 H3 s3 R3 dp3 => ?_) q)
  exact q v3 Hs3 H3 ((s1.trans s2).trans s3) R3 dp3
theorem dt_cmp {a b : Expr} {ta tb : DE} {r : D2} {op : CmpOp} (ho : OpD X Z (compareOp op) r) (ha : De X Z a ta) (hb : De X Z b tb) (hm : behindInMarks op b = false := by first | exact nomark _ | rfl) : Dt X Z (.Compare a [op] [b] pos) (dTst (dOp r ta tb)) := by
  obtain ⟨r0, h0, h1⟩ := ho.ex
  exact dt_cmpP (de_cmp ho ha hb hm) (pt_cmpR h0 ha.run hb.run hm) (lE_op ha hb ho.mono h1)
/-- a chain of two comparisons -/
def dChain (r r' : D2) (ta tb tc : DE) : DE := fun δ Q => ta δ fun d δ1 => tb δ1 fun e δ2 => r d e fun z => match z with
  | .bool true => tc δ2 fun w δ3 => r' e w fun z => Q z δ3
  | .bool false => Q (.bool false) δ2
  | _ => False
theorem dchain_mono {a b c : Expr} {ta tb tc : DE} {r r' : D2} {f f' : Value → Value → Sem Value} (ho : OpD X Z f r) (ho' : OpD X Z f' r') (ha : De X Z a ta) (hb : De X Z b tb) (hc : De X Z c tc) (δ : DSt) (Q Q' : PyData → DSt → Prop) (hq : ∀ d δ', Q d δ' → Q' d δ')
    (q : dChain r r' ta tb tc δ Q) : dChain r r' ta tb tc δ Q' := by
  refine ha.mono _ _ _ (fun _ _ z => hb.mono _ _ _ (fun _ _ z => ho.mono _ _ _ _ (fun _ z => ?_) z) z) q
  split at z
  · exact hc.mono _ _ _ (fun _ _ z => ho'.mono _ _ _ _ (fun _ z => hq _ _ z) z) z
  · exact hq _ _ z
  · exact z
theorem chain_imp {a b c : Expr} {ta tb tc : DE} {r r' : D2} {f f' : Value → Value → Sem Value} {r0 r0' : R2} (ho : OpD X Z f r) (ho' : OpD X Z f' r') (ha : De X Z a ta) (hb : De X Z b tb) (hc : De X Z c tc)
    (h1 : ∀ (d e : PyData) (x y : V) (Hs H : Hp) (σ : St) (δ : DSt) (Q : VK), Rl X.K Z Hs H σ δ → Dp X.K Hs x d → Dp X.K Hs y e →
      r d e (fun z => ∀ v Hs' H', Same Hs Hs' → Rl X.K Z Hs' H' σ δ → Dp X.K Hs' v z → Q v H') → r0 x y H Q)
    (h1' : ∀ (d e : PyData) (x y : V) (Hs H : Hp) (σ : St) (δ : DSt) (Q : VK), Rl X.K Z Hs H σ δ → Dp X.K Hs x d → Dp X.K Hs y e →
      r' d e (fun z => ∀ v Hs' H', Same Hs Hs' → Rl X.K Z Hs' H' σ δ → Dp X.K Hs' v z → Q v H') → r0' x y H Q)
    (σ : St) (H : Hp) (Q : VK) (h : lE X.K Z (dChain r r' ta tb tc) σ H Q) : tChain r0 r0' (lE X.K Z ta) (lE X.K Z tb) (lE X.K Z tc) σ H Q := by
  obtain ⟨Hs, δ, R, q⟩ := h
  refine ⟨Hs, δ, R, ha.mono _ _ _ (fun d δ1 q v Hs1 H1 s1 R1 dp => ⟨Hs1, δ1, R1, hb.mono _ _ _ (fun d2 δ2 q v2 Hs2 H2 s2 R2 dp2 => ?_) q⟩) q⟩
  refine h1 d d2 v v2 Hs2 H2 σ δ2 _ R2 (dp.up s2) dp2 (ho.mono _ _ _ _ (fun z q v3 Hs3 H3 s3 R3 dp3 => ?_) q)
  split at q
  · cases dp3
    refine ⟨true, rfl, ?_⟩
    rw [if_pos rfl]
    refine ⟨Hs3, δ2, R3, hc.mono _ _ _ (fun d4 δ4 q v4 Hs4 H4 s4 R4 dp4 => ?_) q⟩
    refine h1' d2 d4 v2 v4 Hs4 H4 σ δ4 Q R4 ((dp2.up s3).up s4) dp4 (ho'.mono _ _ _ _ (fun z q v5 Hs5 H5 s5 R5 dp5 => ?_) q)
    exact q v5 Hs5 H5 ((((s1.trans s2).trans s3).trans s4).trans s5) R5 dp5
  · cases dp3
    refine ⟨false, rfl, ?_⟩
    rw [if_neg Bool.false_ne_true]
    exact q _ Hs3 H3 ((s1.trans s2).trans s3) R3 (.bl false)
  · exact q.elim
theorem de_chain {a b c : Expr} {ta tb tc : DE} {r r' : D2} {op op' : CmpOp} (ho : OpD X Z (compareOp op) r) (ho' : OpD X Z (compareOp op') r') (ha : De X Z a ta) (hb : De X Z b tb) (hc : De X Z c tc)
    (hm : lastMarks [op, op'] [b, c] = false := by with_unfolding_all rfl) : De X Z (.Compare a [op, op'] [b, c] pos) (dChain r r' ta tb tc) := by
  obtain ⟨r0, h0, h1⟩ := ho.ex
  obtain ⟨r0', h0', h1'⟩ := ho'.ex
  exact ⟨pe_imp (pe_chain h0 h0' ha.run hb.run hc.run hm) (chain_imp ho ho' ha hb hc h1 h1'), dchain_mono ho ho' ha hb hc⟩
theorem dt_chain {a b c : Expr} {ta tb tc : DE} {r r' : D2} {op op' : CmpOp} (ho : OpD X Z (compareOp op) r) (ho' : OpD X Z (compareOp op') r') (ha : De X Z a ta) (hb : De X Z b tb) (hc : De X Z c tc)
    (hm : lastMarks [op, op'] [b, c] = false := by with_unfolding_all rfl) : Dt X Z (.Compare a [op, op'] [b, c] pos) (dTst (dChain r r' ta tb tc)) := by
  obtain ⟨r0, h0, h1⟩ := ho.ex
  obtain ⟨r0', h0', h1'⟩ := ho'.ex
  exact dt_cmpP (de_chain ho ho' ha hb hc hm) (pt_chain h0 h0' ha.run hb.run hc.run hm) (chain_imp ho ho' ha hb hc h1 h1')
/-! ### and, or, not as tests -/
def dAnd (t u : DT) : DT := fun δ Q => t δ fun c δ1 => match c with
  | true => u δ1 Q
  | false => Q false δ1
def dOr (t u : DT) : DT := fun δ Q => t δ fun c δ1 => match c with
  | true => Q true δ1
  | false => u δ1 Q
def dNot (t : DT) : DT := fun δ Q => t δ fun c δ1 => Q (!c) δ1
theorem Dw.pt {e : Expr} {t : DT} (h : Dw X Z e t) : Dt X Z e t := ⟨h.run.pt, h.mono⟩
theorem dw_and1 {a : Expr} {t : DT} (h : Dt X Z a t) : Dw X Z (.BoolOp .And [a] pos) t := ⟨pw_and1 h.run, h.mono⟩
theorem dw_or1 {a : Expr} {t : DT} (h : Dt X Z a t) : Dw X Z (.BoolOp .Or [a] pos) t := ⟨pw_or1 h.run, h.mono⟩
theorem dw_and {a b : Expr} {rest : List Expr} {t u : DT} (h : Dt X Z a t) (h2 : Dw X Z (.BoolOp .And (b :: rest) pos) u) : Dw X Z (.BoolOp .And (a :: b :: rest) pos) (dAnd t u) := by
  refine ⟨pw_imp (pw_and h.run h2.run) fun σ H Q ⟨Hs, δ, R, q⟩ => ⟨Hs, δ, R, h.mono _ _ _ (fun c δ1 q Hs1 H1 s1 R1 => ?_) q⟩, fun δ Q Q' hq q => h.mono _ _ _ (fun c δ' z => ?_) q⟩
  · cases c with
    | true =>
      rw [if_pos rfl]
      exact ⟨Hs1, δ1, R1, h2.mono _ _ _ (fun c δ2 q Hs2 H2 s2 R2 => q Hs2 H2 (s1.trans s2) R2) q⟩
    | false =>
      rw [if_neg Bool.false_ne_true]
      exact q Hs1 H1 s1 R1
  · cases c with
    | true => exact h2.mono _ _ _ hq z
    | false => exact hq _ _ z
theorem dw_or {a b : Expr} {rest : List Expr} {t u : DT} (h : Dt X Z a t) (h2 : Dw X Z (.BoolOp .Or (b :: rest) pos) u) : Dw X Z (.BoolOp .Or (a :: b :: rest) pos) (dOr t u) := by
  refine ⟨pw_imp (pw_or h.run h2.run) fun σ H Q ⟨Hs, δ, R, q⟩ => ⟨Hs, δ, R, h.mono _ _ _ (fun c δ1 q Hs1 H1 s1 R1 => ?_) q⟩, fun δ Q Q' hq q => h.mono _ _ _ (fun c δ' z => ?_) q⟩
  · cases c with
    | true =>
      rw [if_pos rfl]
      exact q Hs1 H1 s1 R1
    | false =>
      rw [if_neg Bool.false_ne_true]
      exact ⟨Hs1, δ1, R1, h2.mono _ _ _ (fun c δ2 q Hs2 H2 s2 R2 => q Hs2 H2 (s1.trans s2) R2) q⟩
  · cases c with
    | true => exact hq _ _ z
    | false => exact h2.mono _ _ _ hq z
theorem dt_not {a : Expr} {t : DT} (h : Dt X Z a t) : Dt X Z (.UnaryOp .Not a pos) (dNot t) :=
  ⟨pt_imp (pt_not h.run) fun σ H Q ⟨Hs, δ, R, q⟩ => ⟨Hs, δ, R, q⟩, fun δ Q Q' hq q => h.mono _ _ _ (fun c δ' z => hq _ _ z) q⟩
/-! ### and, or, not as values -/
def dAndV (t u : DE) : DE := fun δ Q => t δ fun d δ1 => ∃ k, tru d = some k ∧ match k with
  | true => u δ1 Q
  | false => Q d δ1
def dOrV (t u : DE) : DE := fun δ Q => t δ fun d δ1 => ∃ k, tru d = some k ∧ match k with
  | true => Q d δ1
  | false => u δ1 Q
def dNotV (t : DE) : DE := fun δ Q => t δ fun d δ1 => ∃ k, tru d = some k ∧ Q (.bool (!k)) δ1
theorem de_one {a : Expr} {t : DE} {op} (h : De X Z a t) : De X Z (.BoolOp op [a] pos) t := ⟨pe_one h.run, h.mono⟩
theorem de_and {a b : Expr} {rest : List Expr} {t u : DE} (h : De X Z a t) (h2 : De X Z (.BoolOp .And (b :: rest) pos) u) : De X Z (.BoolOp .And (a :: b :: rest) pos) (dAndV t u) := by
  refine ⟨pe_imp (pe_andT h.run h2.run) fun σ H Q ⟨Hs, δ, R, q⟩ => ⟨Hs, δ, R, h.mono _ _ _ (fun d δ1 q v Hs1 H1 s1 R1 dp => ?_) q⟩, fun δ Q Q' hq q => h.mono _ _ _ (fun d δ' z => ?_) q⟩
  · obtain ⟨k, e, q⟩ := q
    refine ⟨k, tru_dp (R1.up dp) e, ?_⟩
    cases k with
    | true =>
      rw [if_pos rfl]
      exact ⟨Hs1, δ1, R1, h2.mono _ _ _ (fun c δ2 q v2 Hs2 H2 s2 R2 dp2 => q v2 Hs2 H2 (s1.trans s2) R2 dp2) q⟩
    | false =>
      rw [if_neg Bool.false_ne_true]
      exact q v Hs1 H1 s1 R1 dp
  · obtain ⟨k, e, z⟩ := z
    refine ⟨k, e, ?_⟩
    cases k with
    | true => exact h2.mono _ _ _ hq z
    | false => exact hq _ _ z
theorem de_or {a b : Expr} {rest : List Expr} {t u : DE} (h : De X Z a t) (h2 : De X Z (.BoolOp .Or (b :: rest) pos) u) : De X Z (.BoolOp .Or (a :: b :: rest) pos) (dOrV t u) := by
  refine ⟨pe_imp (pe_orT h.run h2.run) fun σ H Q ⟨Hs, δ, R, q⟩ => ⟨Hs, δ, R, h.mono _ _ _ (fun d δ1 q v Hs1 H1 s1 R1 dp => ?_) q⟩, fun δ Q Q' hq q => h.mono _ _ _ (fun d δ' z => ?_) q⟩
  · obtain ⟨k, e, q⟩ := q
    refine ⟨k, tru_dp (R1.up dp) e, ?_⟩
    cases k with
    | true =>
      rw [if_pos rfl]
      exact q v Hs1 H1 s1 R1 dp
    | false =>
      rw [if_neg Bool.false_ne_true]
      exact ⟨Hs1, δ1, R1, h2.mono _ _ _ (fun c δ2 q v2 Hs2 H2 s2 R2 dp2 => q v2 Hs2 H2 (s1.trans s2) R2 dp2) q⟩
  · obtain ⟨k, e, z⟩ := z
    refine ⟨k, e, ?_⟩
    cases k with
    | true => exact hq _ _ z
    | false => exact h2.mono _ _ _ hq z
theorem de_not {a : Expr} {t : DE} (h : De X Z a t) : De X Z (.UnaryOp .Not a pos) (dNotV t) := by
  refine ⟨pe_imp (pe_notT h.run) fun σ H Q ⟨Hs, δ, R, q⟩ => ⟨Hs, δ, R, h.mono _ _ _ (fun d δ1 q v Hs1 H1 s1 R1 dp => ?_) q⟩, fun δ Q Q' hq q => h.mono _ _ _ (fun d δ' ⟨k, e, z⟩ => ⟨k, e, hq _ _ z⟩) q⟩
  obtain ⟨k, e, q⟩ := q
  exact ⟨k, tru_dp (R1.up dp) e, q _ Hs1 H1 s1 R1 (.bl _)⟩
def dNeg (t : DE) : DE := fun δ Q => t δ fun d δ' => match d with
  | .int i => Q (.int (-i)) δ'
  | _ => False
theorem de_neg {a : Expr} {t : DE} (h : De X Z a t) : De X Z (.UnaryOp .USub a pos) (dNeg t) := by
  refine ⟨pe_imp (pe_un un_neg h.run) fun σ H Q ⟨Hs, δ, R, q⟩ => ⟨Hs, δ, R, h.mono _ _ _ (fun d δ1 q v Hs1 H1 s1 R1 dp => ?_) q⟩, fun δ Q Q' hq q => h.mono _ _ _ (fun d δ' z => ?_) q⟩
  · split at q
    · cases dp
      exact ⟨_, rfl, q _ Hs1 H1 s1 R1 (.int _)⟩
    · exact q.elim
  · split at z
    · exact hq _ _ z
    · exact z
/-! ### if .. else -/
def dIf (c : DT) (t u : DE) : DE := fun δ Q => c δ fun k δ1 => match k with
  | true => t δ1 Q
  | false => u δ1 Q
theorem de_if {c a b : Expr} {tc : DT} {ta tb : DE} (hc : Dt X Z c tc) (ha : De X Z a ta) (hb : De X Z b tb) : De X Z (.IfExp c a b pos) (dIf tc ta tb) := by
  refine ⟨pe_imp (pe_ifExp hc.run ha.run hb.run) fun σ H Q ⟨Hs, δ, R, q⟩ => ⟨Hs, δ, R, hc.mono _ _ _ (fun k δ1 q Hs1 H1 s1 R1 => ?_) q⟩, fun δ Q Q' hq q => hc.mono _ _ _ (fun k δ' z => ?_) q⟩
  · cases k with
    | true =>
      rw [if_pos rfl]
      exact ⟨Hs1, δ1, R1, ha.mono _ _ _ (fun c δ2 q v2 Hs2 H2 s2 R2 dp2 => q v2 Hs2 H2 (s1.trans s2) R2 dp2) q⟩
    | false =>
      rw [if_neg Bool.false_ne_true]
      exact ⟨Hs1, δ1, R1, hb.mono _ _ _ (fun c δ2 q v2 Hs2 H2 s2 R2 dp2 => q v2 Hs2 H2 (s1.trans s2) R2 dp2) q⟩
  · cases k with
    | true => exact ha.mono _ _ _ hq z
    | false => exact hb.mono _ _ _ hq z
/-! ### built-ins -/
abbrev D1 := List PyData → (PyData → Prop) → Prop
structure ClD (X : Cx) (Z : Ent) (f : Value) (r : D1) : Prop where
  ex : ∃ r0 : List V → Hp → VK → Prop, CallR X f r0 ∧ ∀ (ds : List PyData) (vs : List V) (Hs H : Hp) (σ : St) (δ : DSt) (Q : VK), Rl X.K Z Hs H σ δ → DpAll X.K Hs vs ds →
    r ds (fun z => ∀ v Hs' H', Same Hs Hs' → Rl X.K Z Hs' H' σ δ → Dp X.K Hs' v z → Q v H') → r0 vs H Q
  mono : ∀ (ds : List PyData) (Q Q' : PyData → Prop), (∀ z, Q z → Q' z) → r ds Q → r ds Q'
def dCB (r : D1) (t : DL') : DE := fun δ Q => t δ fun ds δ' => r ds fun z => Q z δ'
theorem de_bP {e : Expr} {es : List Expr} {t : DL'} {r : D1} {f : Value} (hc : ClD X Z f r) (ha : Da X Z es t) (hp : ∀ r0, CallR X f r0 → PE X e (tCB r0 (lA X.K Z t))) : De X Z e (dCB r t) := by
  obtain ⟨r0, h0, h1⟩ := hc.ex
  refine ⟨pe_imp (hp r0 h0) fun σ H Q ⟨Hs, δ, R, q⟩ => ⟨Hs, δ, R, ha.mono _ _ _ (fun ds δ1 q vs Hs1 H1 s1 R1 dps => ?_) q⟩, fun δ Q Q' hq q => ha.mono _ _ _ (fun ds δ' z => hc.mono _ _ _ (fun _ z => hq _ _ z) z) q⟩
  exact h1 ds vs Hs1 H1 σ δ1 Q R1 dps (hc.mono _ _ _ (fun z q v Hs2 H2 s2 R2 dp => q v Hs2 H2 (s1.trans s2) R2 dp) q)
theorem de_b {x : Str} {id : String} {e : Expr} {es : List Expr} {t : DL'} {r : D1} {p : Pos} (hc : ClD X Z (.builtin id) r) (hg : Gl X x) (hm : X.mg x = none) (hv : bootBuiltins x = some (.builtin id)) (ha : Da X Z (e :: es) t) (hn : x ≠ "__name__" := by decide) (hdb : (x == ("__debug__" : Str)) = false := by decide)
    (he : starEach (e :: es) X.env = (false, eval e X.env) :: starEach es X.env := by rfl) (hpl : (backTo pos (starEach es X.env)).any (·.1) = false := by rfl) : De X Z (.Call (.Name x p) (e :: es) [] pos) (dCB r t) :=
  de_bP hc ha fun _ h => pe_callB h hg hm hv ha.run hn hdb he hpl
theorem de_ty {x : Str} {T : String} {e : Expr} {es : List Expr} {t : DL'} {r : D1} {p : Pos} (hc : ClD X Z (.type T) r) (hg : Gl X x) (hm : X.mg x = none) (hv : bootBuiltins x = some (.type T)) (ha : Da X Z (e :: es) t) (hn : x ≠ "__name__" := by decide) (hdb : (x == ("__debug__" : Str)) = false := by decide)
    (he : starEach (e :: es) X.env = (false, eval e X.env) :: starEach es X.env := by rfl) (hpl : (backTo pos (starEach es X.env)).any (·.1) = false := by rfl) : De X Z (.Call (.Name x p) (e :: es) [] pos) (dCB r t) :=
  de_bP hc ha fun _ h => pe_callTy h hg hm hv ha.run hn hdb he hpl
def rAbs : D1 := fun ds Q => match ds with
  | [.int i] => Q (.int (if i < 0 then -i else i))
  | _ => False
theorem cd_abs : ClD X Z (.builtin "abs") rAbs := by
  refine ⟨⟨_, call_abs, fun ds vs Hs H σ δ Q R dps q => ?_⟩, fun ds Q Q' hq q => ?_⟩
  · unfold rAbs at q
    split at q
    · cases dps with
      | cons d1 d2 =>
        cases d1
        cases d2
        exact ⟨_, rfl, q _ Hs H (Same.refl _) R (.int _)⟩
    · exact q.elim
  · unfold rAbs at q ⊢
    split at q
    · exact hq _ q
    · exact q
def rMax : D1 := fun ds Q => match ds with
  | [.int i, .int j] => Q (.int (if j > i then j else i))
  | _ => False
def rMin : D1 := fun ds Q => match ds with
  | [.int i, .int j] => Q (.int (if j < i then j else i))
  | _ => False
theorem cd_max (hc : X.calm = true) : ClD X Z (.builtin "max") rMax := by
  refine ⟨⟨_, call_max2 hc, fun ds vs Hs H σ δ Q R dps q => ?_⟩, fun ds Q Q' hq q => ?_⟩
  · unfold rMax at q
    split at q
    · cases dps with
      | cons d1 d2 =>
        cases d1
        cases d2 with
        | cons d2 d3 =>
          cases d2
          cases d3
          exact ⟨_, _, rfl, q _ Hs H (Same.refl _) R (.int _)⟩
    · exact q.elim
  · unfold rMax at q ⊢
    split at q
    · exact hq _ q
    · exact q
theorem cd_min (hc : X.calm = true) : ClD X Z (.builtin "min") rMin := by
  refine ⟨⟨_, call_min2 hc, fun ds vs Hs H σ δ Q R dps q => ?_⟩, fun ds Q Q' hq q => ?_⟩
  · unfold rMin at q
    split at q
    · cases dps with
      | cons d1 d2 =>
        cases d1
        cases d2 with
        | cons d2 d3 =>
          cases d2
          cases d3
          exact ⟨_, _, rfl, q _ Hs H (Same.refl _) R (.int _)⟩
    · exact q.elim
  · unfold rMin at q ⊢
    split at q
    · exact hq _ q
    · exact q
def rInt1 : D1 := fun ds Q => match ds with
  | [.int i] => Q (.int i)
  | [.bool k] => Q (.int (if k then 1 else 0))
  | _ => False
theorem cd_int : ClD X Z (.type "int") rInt1 := by
  refine ⟨⟨_, call_int1, fun ds vs Hs H σ δ Q R dps q => ?_⟩, fun ds Q Q' hq q => ?_⟩
  · unfold rInt1 at q
    split at q
    · cases dps with
      | cons d1 d2 =>
        cases d1
        cases d2
        exact .inl ⟨_, rfl, q _ Hs H (Same.refl _) R (.int _)⟩
    · cases dps with
      | cons d1 d2 =>
        cases d1
        cases d2
        exact .inr ⟨_, rfl, q _ Hs H (Same.refl _) R (.int _)⟩
    · exact q.elim
  · unfold rInt1 at q ⊢
    split at q
    · exact hq _ q
    · exact hq _ q
    · exact q
def rLen : D1 := fun ds Q => match ds with
  | [.list xs] => Q (.int xs.length)
  | [.tuple xs] => Q (.int xs.length)
  | [.str x] => x.length ≤ sizeLine ∧ Q (.int x.length)
  | _ => False
theorem cd_len : ClD X Z (.builtin "len") rLen := by
  refine ⟨⟨_, call_len_seq.or call_len_str, fun ds vs Hs H σ δ Q R dps q => ?_⟩, fun ds Q Q' hq q => ?_⟩
  · unfold rLen at q
    split at q
    · cases dps with
      | cons d1 d2 =>
        cases d2
        cases d1 with
        | lst hs ha =>
          refine .inl ⟨_, _, rfl, .inl (R.sub.seq hs), ?_⟩
          rw [ha.len]
          exact q _ Hs H (Same.refl _) R (.int _)
    · cases dps with
      | cons d1 d2 =>
        cases d2
        cases d1 with
        | tup hs ha =>
          refine .inl ⟨_, _, rfl, .inr (sqt_mono R.sub hs), ?_⟩
          rw [ha.len]
          exact q _ Hs H (Same.refl _) R (.int _)
    · cases dps with
      | cons d1 d2 =>
        cases d2
        cases d1
        exact .inr ⟨_, rfl, q.1, q.2 _ Hs H (Same.refl _) R (.int _)⟩
    · exact q.elim
  · unfold rLen at q ⊢
    split at q
    · exact hq _ q
    · exact hq _ q
    · exact ⟨q.1, hq _ q.2⟩
    · exact q
/-- tuple(list), tuple(tuple) -/
def rTuple : D1 := fun ds Q => match ds with
  | [.list xs] => Q (.tuple xs)
  | [.tuple xs] => Q (.tuple xs)
  | _ => False
theorem cd_tuple : ClD X Z (.type "tuple") rTuple := by
  refine ⟨⟨_, call_tuple_of, fun ds vs Hs H σ δ Q R dps q => ?_⟩, fun ds Q Q' hq q => ?_⟩
  · unfold rTuple at q
    split at q
    · cases dps with
      | cons d1 d2 =>
        cases d2
        cases d1 with
        | lst hs ha =>
          refine ⟨_, _, rfl, .inl ⟨R.sub.seq hs, fun l hl => ?_⟩⟩
          have s2 : ∀ ys, Same Hs (upd Hs l (.tup ys)) := fun _ => same_new (R.hsn hl)
          exact q _ _ _ (s2 _) (R.alloc hl) (.tup (SqT.of upd_same) (ha.up (s2 _)))
    · cases dps with
      | cons d1 d2 =>
        cases d2
        cases d1 with
        | tup hs ha => exact ⟨_, _, rfl, .inr ⟨sqt_mono R.sub hs, q _ Hs H (Same.refl _) R (.tup hs ha)⟩⟩
    · exact q.elim
  · unfold rTuple at q ⊢
    split at q
    · exact hq _ q
    · exact hq _ q
    · exact q
/-- all, any of a list of truths -/
def bools : List PyData → Option (List Bool)
  | [] => some []
  | .bool b :: r => (bools r).map (b :: ·)
  | _ => none
theorem bools_map : ∀ {ds : List PyData} {bs : List Bool}, bools ds = some bs → ds = bs.map .bool
  | [], bs, h => by cases h; rfl
  | d :: r, bs, h => by
    cases d with
    | bool b =>
      unfold bools at h
      cases q : bools r with
      | none => rw [q] at h; cases h
      | some cs =>
        rw [q] at h
        cases h
        rw [bools_map q]
        rfl
    | _ => cases h
theorem bools_of (bs : List Bool) : bools (bs.map .bool) = some bs := by
  induction bs with
  | nil => rfl
  | cons b r ih => show (bools (r.map .bool)).map (b :: ·) = _; rw [ih]; rfl
def rAll : D1 := fun ds Q => match ds with
  | [.list xs] => ∃ bs, bools xs = some bs ∧ Q (.bool (bs.all id))
  | _ => False
def rAny : D1 := fun ds Q => match ds with
  | [.list xs] => ∃ bs, bools xs = some bs ∧ Q (.bool (bs.any id))
  | _ => False
theorem cd_all (hc : X.calm = true) : ClD X Z (.builtin "all") rAll := by
  refine ⟨⟨_, cr_all hc, fun ds vs Hs H σ δ Q R dps q => ?_⟩, fun ds Q Q' hq q => ?_⟩
  · unfold rAll at q
    split at q
    · obtain ⟨bs, e, q⟩ := q
      have e := bools_map e
      cases dps with
      | cons d1 d2 =>
        cases d2
        cases d1 with
        | lst hs ha =>
          rw [e] at ha
          have e2 := ha.toBools
          rw [e2] at hs
          exact ⟨_, bs, rfl, R.sub.seq hs, q _ Hs H (Same.refl _) R (.bl _)⟩
    · exact q.elim
  · unfold rAll at q ⊢
    split at q
    · obtain ⟨bs, e, q⟩ := q
      exact ⟨bs, e, hq _ q⟩
    · exact q
theorem cd_any (hc : X.calm = true) : ClD X Z (.builtin "any") rAny := by
  refine ⟨⟨_, cr_any hc, fun ds vs Hs H σ δ Q R dps q => ?_⟩, fun ds Q Q' hq q => ?_⟩
  · unfold rAny at q
    split at q
    · obtain ⟨bs, e, q⟩ := q
      have e := bools_map e
      cases dps with
      | cons d1 d2 =>
        cases d2
        cases d1 with
        | lst hs ha =>
          rw [e] at ha
          have e2 := ha.toBools
          rw [e2] at hs
          exact ⟨_, bs, rfl, R.sub.seq hs, q _ Hs H (Same.refl _) R (.bl _)⟩
    · exact q.elim
  · unfold rAny at q ⊢
    split at q
    · obtain ⟨bs, e, q⟩ := q
      exact ⟨bs, e, hq _ q⟩
    · exact q
/-- isinstance(e, T), T a built-in class by its name -/
def tyName : PyData → String
  | .none => "NoneType"
  | .bool _ => "bool"
  | .int _ => "int"
  | .str _ => "str"
  | .list _ => "list"
  | .tuple _ => "tuple"
  | .dict _ => "dict"
def isT (T : String) (n : String) : Bool := n == T || (n == "bool" && T == "int")
def kitFor (T : String) : Bool := sixT.all (fun n => kitB n T == some (isT T n)) && sixT.contains T && kitB "dict" T == some (isT T "dict") && !isT T "dict"
theorem tyx_dp {K : Fg} {H : Hp} {v : V} {d : PyData} {T : String} (h : Dp K H v d) (hT : kitFor T = true) : ∃ t, TyX K H v t ∧ PySem.W.kitOne K t (.type T) = some (isT T (tyName d)) := by
  simp only [kitFor, Bool.and_eq_true, List.all_eq_true, beq_iff_eq, List.contains_iff_mem, Bool.not_eq_true'] at hT
  obtain ⟨⟨⟨h6, hm⟩, hd⟩, hn⟩ := hT
  have k6 : ∀ n ∈ sixT, PySem.W.kitOne K (.type n) (.type T) = some (isT T n) := fun n m => kit_ty (h6 n m)
  cases h with
  | non => exact ⟨_, .base .non, k6 _ (by decide)⟩
  | bl b => exact ⟨_, .base (.bl b), k6 _ (by decide)⟩
  | int i => exact ⟨_, .base (.int i), k6 _ (by decide)⟩
  | str x => exact ⟨_, .base (.str x), k6 _ (by decide)⟩
  | lst hs ha =>
    rcases hs with (h | ⟨o, h⟩) | ⟨o, its, n, h, c, _⟩
    · exact ⟨_, .base (.lst h), k6 _ (by decide)⟩
    · exact ⟨_, .base (.frz h), k6 _ (by decide)⟩
    · exact ⟨_, .kList h c, k6 _ (by decide)⟩
  | tup hs ha =>
    rcases hs with (h | ⟨o, h⟩) | ⟨o, its, n, h, c, _⟩
    · exact ⟨_, .base (.tup h), k6 _ (by decide)⟩
    · exact ⟨_, .fTuple h, k6 _ (by decide)⟩
    · exact ⟨_, .kTuple h c, k6 _ (by decide)⟩
  | ins ok h1 h2 h3 h4 =>
    refine ⟨_, .base (.ins h1 ok.cl ok.ha ok.hn ok.tk ok.hm), ?_⟩
    show _ = some (isT T "dict")
    rw [hn]
    exact ok.no T hm
  | dct h1 h2 h3 => exact ⟨_, .base (.dK h1), kit_ty hd⟩
def dIsi (T : String) (t : DE) : DE := fun δ Q => t δ fun d δ' => Q (.bool (isT T (tyName d))) δ'
theorem de_isi {e : Expr} {t : DE} {x : Str} {T : String} {p p2 : Pos} (ha : De X Z e t) (hk : kitFor T = true) (hg : Gl X "isinstance") (hm : X.mg "isinstance" = none) (hgT : Gl X x) (hmT : X.mg x = none) (hvT : bootBuiltins x = some (.type T))
    (hv : bootBuiltins "isinstance" = some (.builtin "isinstance")) (hnT : x ≠ "__name__" := by decide) (hdT : (x == ("__debug__" : Str)) = false := by decide)
    (h1 : starEach [e, .Name x p2] X.env = (false, eval e X.env) :: starEach [.Name x p2] X.env := by rfl) (h2 : starEach [.Name x p2] X.env = (false, eval (.Name x p2) X.env) :: starEach [] X.env := by rfl) (hpl : (backTo pos (starEach [.Name x p2] X.env)).any (·.1) = false := by rfl) :
    De X Z (.Call (.Name "isinstance" p) [e, .Name x p2] [] pos) (dIsi T t) := by
  have hT : PE X (.Name x p2) (tC (.ty T)) := pe_bltn hgT hmT hvT rfl hnT hdT
  refine ⟨pe_imp (pe_callB call_isi hg hm hv (pa_cons ha.run (pa_cons hT pa_nil h2) h1) (by decide) (by decide) h1 hpl) fun σ H Q ⟨Hs, δ, R, q⟩ => ⟨Hs, δ, R, ha.mono _ _ _ (fun d δ1 q v Hs1 H1 s1 R1 dp => ?_) q⟩, fun δ Q Q' hq q => ha.mono _ _ _ (fun d δ' z => hq _ _ z) q⟩
  obtain ⟨t, h1, h2⟩ := tyx_dp (R1.up dp) hk
  exact ⟨v, .ty T, t, .type T, _, rfl, .ty T, h1, h2, q _ Hs1 H1 s1 R1 (.bl _)⟩
/-- x.bit_length() -/
def dBits (t : DE) : DE := fun δ Q => t δ fun d δ' => match d with
  | .int i => Q (.int (Builtin.Int.intBits i : Nat)) δ'
  | _ => False
theorem de_bits {e : Expr} {t : DE} {apos : Pos} (ha : De X Z e t) (hbase : attributeBase e "bit_length" X.env (eval e X.env) = eval e X.env := by rfl) (hline : (apos.endLine == pos.line) = true := by rfl) : De X Z (.Call (.Attribute e "bit_length" apos) [] [] pos) (dBits t) := by
  refine ⟨pe_imp (pe_bits ha.run hbase hline) fun σ H Q ⟨Hs, δ, R, q⟩ => ⟨Hs, δ, R, ha.mono _ _ _ (fun d δ1 q v Hs1 H1 s1 R1 dp => ?_) q⟩, fun δ Q Q' hq q => ha.mono _ _ _ (fun d δ' z => ?_) q⟩
  · split at q
    · cases dp
      exact ⟨_, rfl, q _ Hs1 H1 s1 R1 (.int _)⟩
    · exact q.elim
  · split at z
    · exact hq _ _ z
    · exact z
end
end DL

namespace DL
open PySem PySem.Spec L2
/-! ### defs: promises by data -/
inductive Res where
  | d (d : PyData)
  | o (xs : List PyData)
def ResOk (K : Fg) (Z : Ent) (Hs H : Hp) (σ : St) (δ : DSt) (v : V) : Res → Prop
  | .d d => Dp K Hs v d
  | .o xs => FrO K Z Hs H σ δ v xs
/-- shared data handed in; nothing is changed -/
abbrev FP := List PyData → (Res → Prop) → Prop
def spP (K : Fg) (f : FP) : Sp := fun vs H Q _ => ∃ Hs ds, Same Hs H ∧ DpAll K Hs vs ds ∧ f ds fun r => ∀ v Hs' H', Rl K (.at H Hs [] []) Hs' H' [] [] → ResOk K (.at H Hs [] []) Hs' H' [] [] v r → Q v H'
/-- a list of the caller's own handed in first, which may be changed; then shared data -/
abbrev FB := List PyData → List PyData → (Res → List PyData → Prop) → Prop
def spB (K : Fg) (f : FB) : Sp := fun vs H Q _ => ∃ Hs b ws xs us ds, vs = .ref b :: us ∧ Same Hs H ∧ Hs b = none ∧ H b = some (.lst ws) ∧ DpAll K Hs ws xs ∧ DpAll K Hs us ds ∧
  f xs ds fun r xs' => ∀ v Hs' H', Rl K (.at H Hs [b] [some (.ref b)]) Hs' H' [some (.ref b)] [some (.ow true xs')] → ResOk K (.at H Hs [b] [some (.ref b)]) Hs' H' [some (.ref b)] [some (.ow true xs')] v r → Q v H'
section
variable {K : Fg} {Z : Ent} {Hs H Hs' H' : Hp} {σ : St} {δ : DSt}
theorem Rl.after (R : Rl K Z Hs H σ δ) (C : Rl K (.at H Hs [] []) Hs' H' [] []) : Rl K Z Hs' H' σ δ :=
  R.grow C.ext C.sub (fun b o e => C.fr b o e (fun z => nomatch z)) fun b n => C.new b n
theorem FrA.after {v : V} {s : Sl} {A : List Addr} (R : Rl K Z Hs H σ δ) (C : Rl K (.at H Hs [] []) Hs' H' [] []) (f : FrA K (.at H Hs [] []) Hs' H' [] [] v s A) : FrA K Z Hs' H' σ δ v s A :=
  FrA.fresh R (R.after C) f.at_ (fun a m => (f.mine a m).1) f.hs fun f' F => F.back R fun b o e => C.fr b o e (fun z => nomatch z)
theorem FrO.after {v : V} {xs : List PyData} (R : Rl K Z Hs H σ δ) (C : Rl K (.at H Hs [] []) Hs' H' [] []) (f : FrO K (.at H Hs [] []) Hs' H' [] [] v xs) : FrO K Z Hs' H' σ δ v xs := by
  obtain ⟨A, f⟩ := f
  exact ⟨A, f.after R C⟩
/-- behind a call that was handed the owned thing of slot i -/
theorem Rl.afterA {v : V} {i : Nat} {s s' : Sl} {f : Nat → List Addr} (R : Rl K Z Hs H σ δ) (F : Fps K Z Hs H σ δ f) (h : δ[i]? = some (some s)) (ho : s.own = true) (hv : σ[i]? = some (some v)) (ho' : s'.own = true) (C : Rl K (.at H Hs (f i) [some v]) Hs' H' [some v] [some s']) :
    Rl K Z Hs' H' σ (δ.set i (some (s'.as s.prm))) := by
  obtain ⟨g, G⟩ := C.fps
  obtain ⟨v', g1, g2⟩ := G.at_ 0 s' rfl ho'
  cases g1
  refine R.chg (A := g 0) h ho hv (Sl.as_prm ho') C.ext C.sub (fun f2 F2 b o n e => C.fr b o e (by rw [F.same F2 i]; exact n)) (fun b n => ?_) (fun b n => C.new b n) (g2.as _) (fun f2 F2 a m => ?_) (G.hs 0)
  · by_cases q : b ∈ f i
    · exact (C.hid b q).2
    · cases e : H b with
      | none => exact absurd e n
      | some o =>
        rw [C.fr b o e q]
        exact fun z => nomatch z
  · rcases G.old 0 a m with z | z
    · exact .inr z
    · exact .inl (by rw [← F.same F2 i]; exact z)
theorem FrA.afterA {v u : V} {i : Nat} {s s' t : Sl} {A : List Addr} {f : Nat → List Addr} (R : Rl K Z Hs H σ δ) (F : Fps K Z Hs H σ δ f) (h : δ[i]? = some (some s)) (ho : s.own = true) (hv : σ[i]? = some (some v)) (ho' : s'.own = true) (C : Rl K (.at H Hs (f i) [some v]) Hs' H' [some v] [some s'])
    (c : FrA K (.at H Hs (f i) [some v]) Hs' H' [some v] [some s'] u t A) : FrA K Z Hs' H' σ (δ.set i (some (s'.as s.prm))) u t A := by
  obtain ⟨g, G⟩ := C.fps
  obtain ⟨v', g1, g2⟩ := G.at_ 0 s' rfl ho'
  cases g1
  refine ⟨c.at_, c.hs, fun a m => ⟨R.h0n (c.mine a m).1, R.won (c.mine a m).1⟩, fun f' F' j a m m' => ?_, fun a o m => R.nog (c.mine a m).1⟩
  by_cases q : j = i
  · subst q
    obtain ⟨v', k1, k2⟩ := F'.at_ j _ (List.getElem?_set_self (get_lt h)) (by rw [Sl.as_own]; exact ho')
    rw [hv] at k1
    cases k1
    rw [k2.uniq (g2.as _)] at m'
    exact c.dis g G 0 a m m'
  · have e := F.eqj F' j (List.getElem?_set_ne (fun z => q z.symm)) (fun _ z => z) fun b mb => by
      cases e : H b with
      | none => exact absurd e (F.live j mb)
      | some o => exact C.fr b o e (F.dis j i b q mb)
    rw [e] at m'
    exact F.live j m' (c.mine a m).1
/-- the same for a list -/
theorem Rl.afterB {b : Addr} {i : Nat} {p : Bool} {xs xs' : List PyData} (R : Rl K Z Hs H σ δ) (h : δ[i]? = some (some (Sl.ow p xs))) (hb : σ[i]? = some (some (V.ref b))) (C : Rl K (.at H Hs [b] [some (.ref b)]) Hs' H' [some (.ref b)] [some (.ow true xs')]) :
    Rl K Z Hs' H' σ (δ.set i (some (.ow p xs'))) := by
  obtain ⟨f, F⟩ := R.fps
  exact R.afterA F h rfl hb (s' := .ow true xs') rfl (by rw [F.lst h hb]; exact C)
theorem FrO.afterB {v : V} {b : Addr} {i : Nat} {p : Bool} {xs xs' zs : List PyData} (R : Rl K Z Hs H σ δ) (h : δ[i]? = some (some (Sl.ow p xs))) (hb : σ[i]? = some (some (V.ref b))) (C : Rl K (.at H Hs [b] [some (.ref b)]) Hs' H' [some (.ref b)] [some (.ow true xs')]) (c : FrO K (.at H Hs [b] [some (.ref b)]) Hs' H' [some (.ref b)] [some (.ow true xs')] v zs) : FrO K Z Hs' H' σ (δ.set i (some (.ow p xs'))) v zs := by
  obtain ⟨f, F⟩ := R.fps
  obtain ⟨A, c⟩ := c
  exact ⟨A, FrA.afterA R F h rfl hb (s' := .ow true xs') rfl (by rw [F.lst h hb]; exact C) (by rw [F.lst h hb]; exact c)⟩
end
section
variable {X : Cx} {Z : Ent} {pos : Pos}
/-! ### calls of defs -/
def asD : Res → PyData
  | .d d => d
  | .o xs => .list xs
def dCall (f : FP) (dd : List PyData) (t : DL') : DE := fun δ Q => t δ fun ds δ' => f (ds ++ dd) fun r => Q (asD r) δ'
def dCallO (f : FP) (dd : List PyData) (t : DL') : DL' := fun δ Q => t δ fun ds δ' => f (ds ++ dd) fun r => match r with
  | .o xs => Q xs δ'
  | .d _ => False
class FMono (f : FP) : Prop where
  m : ∀ (ds : List PyData) (Q Q' : Res → Prop), (∀ r, Q r → Q' r) → f ds Q → f ds Q'
class BMono (f : FB) : Prop where
  m : ∀ (xs ds : List PyData) (Q Q' : Res → List PyData → Prop), (∀ r y, Q r y → Q' r y) → f xs ds Q → f xs ds Q'
section
variable {CX : CXT} {k : Nat} {g : Addr} {fd : FuncData} {ps : List Str} {f : FP} {fb : FB} {x : Str} {e : Expr} {es : List Expr} {t : DL'} {p : Pos} {dvs : List V} {dus : List Value} {dd : List PyData}
theorem call_run {σ : St} {H : Hp} {Q : VK} (fm : FMono f) (hdd : ∀ H, DpAll X.K H dvs dd) {Hs : Hp} {δ : DSt} (R : Rl X.K Z Hs H σ δ) {vs : List V} {ds : List PyData} (dps : DpAll X.K Hs vs ds)
    (q : f (ds ++ dd) fun r => ∀ v Hs' H', Same Hs Hs' → Rl X.K Z Hs' H' σ δ → ResOk X.K Z Hs' H' σ δ v r → Q v H') : spP X.K f (vs ++ dvs) H Q E0 := by
  refine ⟨Hs, ds ++ dd, R.sub, dps.app (hdd Hs), fm.m _ _ _ (fun r q v Hs' H' C c => ?_) q⟩
  refine q v Hs' H' C.ext (R.after C) ?_
  cases r with
  | d d => exact c
  | o xs => exact FrO.after R C c
theorem de_call (F : FnOk X.prog X.w X.K X.mg X.base CX0 k g fd ps (spP X.K f)) (fm : FMono f) (hr : Room k X.A) (hg : Gl X x) (hm : X.mg x = some (.ref g)) (hk : PySem.W.keepIn X.K (.ref g) = true) (hb : Binds X.K fd ps dus) (hd : Vals dvs dus) (hdd : ∀ H, DpAll X.K H dvs dd)
    (ha : Da X Z (e :: es) t) (hdb : (x == ("__debug__" : Str)) = false := by decide) (he : starEach (e :: es) X.env = (false, eval e X.env) :: starEach es X.env := by rfl) (hpl : (backTo pos (starEach es X.env)).any (·.1) = false := by rfl) :
    De X Z (.Call (.Name x p) (e :: es) [] pos) (dCall f dd t) := by
  refine ⟨pe_imp (pe_call F hr hg hm hk hb hd pass0 ha.run hdb he hpl) fun σ H Q ⟨Hs, δ, R, q⟩ => ⟨Hs, δ, R, ha.mono _ _ _ (fun ds δ1 q vs Hs1 H1 s1 R1 dps => ?_) q⟩, fun δ Q Q' hq q => ha.mono _ _ _ (fun ds δ' z => fm.m _ _ _ (fun r z => hq _ _ z) z) q⟩
  refine call_run fm hdd R1 dps (fm.m _ _ _ (fun r q v Hs2 H2 s2 R2 c => ?_) q)
  cases r with
  | d d => exact q v Hs2 H2 (s1.trans s2) R2 c
  | o xs =>
    obtain ⟨Hs3, s3, R3, dp⟩ := FrO.share R2 c
    exact q v Hs3 H2 ((s1.trans s2).trans s3) R3 dp
theorem do_call (F : FnOk X.prog X.w X.K X.mg X.base CX0 k g fd ps (spP X.K f)) (fm : FMono f) (hr : Room k X.A) (hg : Gl X x) (hm : X.mg x = some (.ref g)) (hk : PySem.W.keepIn X.K (.ref g) = true) (hb : Binds X.K fd ps dus) (hd : Vals dvs dus) (hdd : ∀ H, DpAll X.K H dvs dd)
    (ha : Da X Z (e :: es) t) (hdb : (x == ("__debug__" : Str)) = false := by decide) (he : starEach (e :: es) X.env = (false, eval e X.env) :: starEach es X.env := by rfl) (hpl : (backTo pos (starEach es X.env)).any (·.1) = false := by rfl) :
    Do X Z (.Call (.Name x p) (e :: es) [] pos) (dCallO f dd t) := by
  refine ⟨pe_imp (pe_call F hr hg hm hk hb hd pass0 ha.run hdb he hpl) fun σ H Q ⟨Hs, δ, R, q⟩ => ⟨Hs, δ, R, ha.mono _ _ _ (fun ds δ1 q vs Hs1 H1 s1 R1 dps => ?_) q⟩, fun δ Q Q' hq q => ha.mono _ _ _ (fun ds δ' z => fm.m _ _ _ (fun r z => ?_) z) q⟩
  · refine call_run fm hdd R1 dps (fm.m _ _ _ (fun r q v Hs2 H2 s2 R2 c => ?_) q)
    cases r with
    | d d => exact q.elim
    | o xs => exact q v Hs2 H2 (s1.trans s2) R2 c
  · cases r with
    | d d => exact z
    | o xs => exact hq _ _ z
/-- an owned list handed in first -/
def dCallB (i : Nat) (f : FB) (t : DL') : DE := fun δ Q => match δ[i]? with
  | some (some (.ow _ _)) => t δ fun ds δ' => match δ'[i]? with
    | some (some (.ow p xs)) => f xs ds fun r xs' => Q (asD r) (δ'.set i (some (.ow p xs')))
    | _ => False
  | _ => False
theorem de_callB (i : Nat) {y : Str} {py : Pos} (F : FnOk X.prog X.w X.K X.mg X.base CX0 k g fd ps (spB X.K fb)) (fm : BMono fb) (hr : Room k X.A) (hg : Gl X x) (hm : X.mg x = some (.ref g)) (hk : PySem.W.keepIn X.K (.ref g) = true) (hb : Binds X.K fd ps []) (ha : Da X Z es t)
    (hN : X.N[i]? = some y := by rfl) (hv : Vis X.env.scope y := by first | exact Or.inl rfl | exact Or.inr (Or.inl rfl) | exact Or.inr (Or.inr rfl)) (hdy : (y == ("__debug__" : Str)) = false := by decide) (hcd : (y == ("__classdict__" : Str)) = false := by decide)
    (hdb : (x == ("__debug__" : Str)) = false := by decide) (he : starEach (.Name y py :: es) X.env = (false, eval (.Name y py) X.env) :: starEach es X.env := by rfl) (hpl : (backTo pos (starEach es X.env)).any (·.1) = false := by rfl) :
    De X Z (.Call (.Name x p) (.Name y py :: es) [] pos) (dCallB i fb t) := by
  refine ⟨pe_imp (pe_call F hr hg hm hk hb .nil pass0 (pa_cons (pe_var hN hv hdy hcd) ha.run he) hdb he hpl) fun σ H Q ⟨Hs, δ, R, q⟩ => ?_, fun δ Q Q' hq q => ?_⟩
  · unfold dCallB at q
    split at q
    · rename_i p0 xs0 e0
      obtain ⟨b, ws0, hv, _⟩ := R.own _ _ _ e0
      refine ⟨.ref b, hv, Hs, δ, R, ha.mono _ _ _ (fun ds δ1 q vs Hs1 H1 s1 R1 dps => ?_) q⟩
      split at q
      · rename_i p1 xs e1
        obtain ⟨b', ws, h1, h2, h3, h4⟩ := R1.own _ _ _ e1
        rw [hv] at h1
        cases h1
        refine ⟨Hs1, b, ws, xs, vs, ds, by rw [List.append_nil], R1.sub, h3, h2, h4, dps, fm.m _ _ _ _ (fun r xs' q v Hs2 H2 C c => ?_) q⟩
        have R2 := R1.afterB e1 hv C
        cases r with
        | d d => exact q v Hs2 H2 (s1.trans C.ext) R2 c
        | o zs =>
          obtain ⟨Hs3, s3, R3, dp⟩ := FrO.share R2 (FrO.afterB R1 e1 hv C c)
          exact q v Hs3 H2 ((s1.trans C.ext).trans s3) R3 dp
      · exact q.elim
    · exact q.elim
  · unfold dCallB at q ⊢
    split at q
    · refine ha.mono _ _ _ (fun ds δ' z => ?_) q
      split at z
      · exact fm.m _ _ _ _ (fun r y z => hq _ _ z) z
      · exact z
    · exact q
end
/-! ### statements -/
structure DEnds where
  nx : DSt → Prop
  rt : PyData → DSt → Prop
  ro : List PyData → DSt → Prop
  bk : DSt → Prop
  ct : DSt → Prop
structure EndsOk (K : Fg) (Z : Ent) (Hs0 : Hp) (D : Ends) (N : DEnds) : Prop where
  nx : ∀ σ δ Hs H, Same Hs0 Hs → Rl K Z Hs H σ δ → N.nx δ → D.nx σ H
  rt : ∀ σ δ Hs H v d, Same Hs0 Hs → Rl K Z Hs H σ δ → Dp K Hs v d → N.rt d δ → D.rt v H
  ro : ∀ σ δ Hs H v xs, Same Hs0 Hs → Rl K Z Hs H σ δ → FrO K Z Hs H σ δ v xs → N.ro xs δ → D.rt v H
  bk : ∀ σ δ Hs H, Same Hs0 Hs → Rl K Z Hs H σ δ → N.bk δ → D.bk σ H
  ct : ∀ σ δ Hs H, Same Hs0 Hs → Rl K Z Hs H σ δ → N.ct δ → D.ct σ H
theorem EndsOk.up {K : Fg} {Hs Hs' : Hp} {D : Ends} {N : DEnds} (h : EndsOk K Z Hs D N) (e : Same Hs Hs') : EndsOk K Z Hs' D N :=
  ⟨fun σ δ a b s => h.nx σ δ a b (e.trans s), fun σ δ a b v d s => h.rt σ δ a b v d (e.trans s), fun σ δ a b v d s => h.ro σ δ a b v d (e.trans s), fun σ δ a b s => h.bk σ δ a b (e.trans s), fun σ δ a b s => h.ct σ δ a b (e.trans s)⟩
abbrev DS := DEnds → DSt → Prop
def lS (K : Fg) (Z : Ent) (t : DS) : TS := fun D σ H => ∃ Hs δ N, Rl K Z Hs H σ δ ∧ EndsOk K Z Hs D N ∧ t N δ
structure Ds (X : Cx) (Z : Ent) (st : Stmt) (t : DS) : Prop where
  run : PS X st (lS X.K Z t)
structure Dss (X : Cx) (Z : Ent) (st : List Stmt) (t : DS) : Prop where
  run : PSs X st (lS X.K Z t)
def dNx : DS := fun N δ => N.nx δ
def dSeq (t u : DS) : DS := fun N δ => t { N with nx := u N } δ
theorem dss_nil : Dss X Z [] dNx := ⟨pss_imp pss_nil fun D σ H ⟨Hs, δ, N, R, ok, q⟩ => ok.nx σ δ Hs H (Same.refl _) R q⟩
theorem dss_cons {st : Stmt} {rest : List Stmt} {t u : DS} (h1 : Ds X Z st t) (h2 : Dss X Z rest u) : Dss X Z (st :: rest) (dSeq t u) := by
  refine ⟨pss_imp (pss_cons h1.run h2.run) fun D σ H ⟨Hs, δ, N, R, ok, q⟩ => ?_⟩
  refine ⟨Hs, δ, { N with nx := u N }, R, ⟨fun σ' δ' Hs' H' s R' q => ?_, ok.rt, ok.ro, ok.bk, ok.ct⟩, q⟩
  exact ⟨Hs', δ', N, R', ok.up s, q⟩
theorem dss_one {st : Stmt} {t : DS} (h1 : Ds X Z st t) : Dss X Z [st] t := ⟨pss_one h1.run⟩
theorem ds_pass : Ds X Z (.Pass pos) dNx := ⟨ps_imp ps_pass fun D σ H ⟨Hs, δ, N, R, ok, q⟩ => ok.nx σ δ Hs H (Same.refl _) R q⟩
def dBk : DS := fun N δ => N.bk δ
def dCt : DS := fun N δ => N.ct δ
def dRtN : DS := fun N δ => N.rt .none δ
theorem ds_break : Ds X Z (.Break pos) dBk := ⟨ps_imp ps_break fun D σ H ⟨Hs, δ, N, R, ok, q⟩ => ok.bk σ δ Hs H (Same.refl _) R q⟩
theorem ds_continue : Ds X Z (.Continue pos) dCt := ⟨ps_imp ps_continue fun D σ H ⟨Hs, δ, N, R, ok, q⟩ => ok.ct σ δ Hs H (Same.refl _) R q⟩
def dNever : DS := fun _ _ => False
theorem ds_never {st : Stmt} : Ds X Z st dNever := ⟨ps_imp ps_never fun D σ H ⟨Hs, δ, N, R, ok, q⟩ => q⟩
theorem dss_never {st : List Stmt} : Dss X Z st dNever := ⟨pss_imp pss_never fun D σ H ⟨Hs, δ, N, R, ok, q⟩ => q⟩
def dRet (t : DE) : DS := fun N δ => t δ fun d δ' => N.rt d δ'
theorem ds_ret {e : Expr} {t : DE} (h : De X Z e t) : Ds X Z (.Return (some e) pos) (dRet t) :=
  ⟨ps_imp (ps_ret h.run) fun D σ H ⟨Hs, δ, N, R, ok, q⟩ => ⟨Hs, δ, R, h.mono _ _ _ (fun d δ' q v Hs' H' s R' dp => ok.rt σ δ' Hs' H' v d s R' dp q) q⟩⟩
def dRetO (t : DL') : DS := fun N δ => t δ fun d δ' => N.ro d δ'
theorem ds_retO {e : Expr} {t : DL'} (h : Do X Z e t) : Ds X Z (.Return (some e) pos) (dRetO t) :=
  ⟨ps_imp (ps_ret h.run) fun D σ H ⟨Hs, δ, N, R, ok, q⟩ => ⟨Hs, δ, R, h.mono _ _ _ (fun d δ' q v Hs' H' s R' dp => ok.ro σ δ' Hs' H' v d s R' dp q) q⟩⟩
theorem ds_retN : Ds X Z (.Return none pos) dRtN := ⟨ps_imp ps_retN fun D σ H ⟨Hs, δ, N, R, ok, q⟩ => ok.rt σ δ Hs H .non .none (Same.refl _) R .non q⟩
def dDrop (t : DE) : DS := fun N δ => t δ fun _ δ' => N.nx δ'
theorem ds_expr {e : Expr} {t : DE} (h : De X Z e t) (hs : swapsWith e none pos.line X.env = pure false := by rfl) : Ds X Z (.Expr e pos) (dDrop t) :=
  ⟨ps_imp (ps_expr h.run hs) fun D σ H ⟨Hs, δ, N, R, ok, q⟩ => ⟨Hs, δ, R, h.mono _ _ _ (fun d δ' q v Hs' H' s R' dp => ok.nx σ δ' Hs' H' s R' q) q⟩⟩
def dIfS (c : DT) (t u : DS) : DS := fun N δ => c δ fun k δ' => match k with
  | true => t N δ'
  | false => u N δ'
theorem ds_if {c : Expr} {a b : List Stmt} {tc : DT} {t u : DS} (hc : Dt X Z c tc) (ha : Dss X Z a t) (hb : Dss X Z b u) : Ds X Z (.If c a b pos) (dIfS tc t u) := by
  refine ⟨ps_imp (ps_if hc.run ha.run hb.run) fun D σ H ⟨Hs, δ, N, R, ok, q⟩ => ⟨Hs, δ, R, hc.mono _ _ _ (fun k δ' q Hs' H' s R' => ?_) q⟩⟩
  cases k with
  | true =>
    rw [if_pos rfl]
    exact ⟨Hs', δ', N, R', ok.up s, q⟩
  | false =>
    rw [if_neg Bool.false_ne_true]
    exact ⟨Hs', δ', N, R', ok.up s, q⟩
/-! ### targets -/
abbrev DG := PyData → DSt → (DSt → Prop) → Prop
abbrev DGs := List PyData → DSt → (DSt → Prop) → Prop
def Agree (ts : List Nat) (σ σ' : St) : Prop := σ'.length = σ.length ∧ ∀ j, j ∉ ts → σ'[j]? = σ[j]?
theorem Agree.refl {ts : List Nat} {σ : St} : Agree ts σ σ := ⟨rfl, fun _ _ => rfl⟩
theorem Agree.trans {ts us : List Nat} {σ σ1 σ2 : St} (a : Agree ts σ σ1) (b : Agree us σ1 σ2) : Agree (ts ++ us) σ σ2 := ⟨b.1.trans a.1, fun j h => by
  rw [List.mem_append, not_or] at h
  rw [b.2 j h.2, a.2 j h.1]⟩
theorem agree_set {σ : St} {i : Nat} {v : Option V} : Agree [i] σ (σ.set i v) := ⟨List.length_set, fun j h => by
  rw [List.getElem?_set_ne]
  intro e
  exact h (by rw [e]; exact List.mem_singleton_self _)⟩
def lG (K : Fg) (Z : Ent) (ts : List Nat) (t : DG) : TG := fun v σ H Q => ∃ Hs δ d, Rl K Z Hs H σ δ ∧ Dp K Hs v d ∧ t d δ fun δ' => ∀ σ', Rl K Z Hs H σ' δ' → Agree ts σ σ' → Q σ' H
def lGs (K : Fg) (Z : Ent) (ts : List Nat) (t : DGs) : TGs := fun vs σ H Q => ∃ Hs δ ds, Rl K Z Hs H σ δ ∧ DpAll K Hs vs ds ∧ t ds δ fun δ' => ∀ σ', Rl K Z Hs H σ' δ' → Agree ts σ σ' → Q σ' H
structure Dg (X : Cx) (Z : Ent) (tg : Expr) (ts : List Nat) (t : DG) : Prop where
  run : PG X tg (lG X.K Z ts t)
  mono : ∀ (d : PyData) (δ : DSt) (Q Q' : DSt → Prop), (∀ δ', Q δ' → Q' δ') → t d δ Q → t d δ Q'
structure Dgs (X : Cx) (Z : Ent) (tg : List Expr) (ts : List Nat) (t : DGs) : Prop where
  run : PGs X tg (lGs X.K Z ts t)
  mono : ∀ (d : List PyData) (δ : DSt) (Q Q' : DSt → Prop), (∀ δ', Q δ' → Q' δ') → t d δ Q → t d δ Q'
def gNm (i : Nat) : DG := fun d δ Q => Q (δ.set i (some (.sh d)))
theorem pg_imp {tg : Expr} {t t' : TG} (h : PG X tg t) (i : ∀ v σ H Q, t' v σ H Q → t v σ H Q) : PG X tg t' := ⟨fun pins s σ H v u Q I r h' => h.run pins s σ H v u Q I r (i v σ H Q h')⟩
theorem pgs_imp {tg : List Expr} {t t' : TGs} (h : PGs X tg t) (i : ∀ v σ H Q, t' v σ H Q → t v σ H Q) : PGs X tg t' := ⟨fun pins s σ H v u Q I r h' => h.run pins s σ H v u Q I r (i v σ H Q h')⟩
theorem dg_name {i : Nat} {x : Str} (hN : X.N.Nodup) (hi : X.N[i]? = some x) (hx : Loc X.env.scope x) (hf : X.fn x = true ∨ X.env.scope.names.lookup x = some .local := by first | exact .inl rfl | exact .inr rfl | assumption) : Dg X Z (.Name x pos) [i] (gNm i) :=
  ⟨pg_imp (pg_name hN hi hx hf) fun v σ H Q ⟨Hs, δ, d, R, dp, q⟩ => q _ (R.set dp) agree_set, fun d δ Q Q' hq q => hq _ q⟩
def gsNil : DGs := fun ds δ Q => match ds with
  | [] => Q δ
  | _ => False
def gsCons (t : DG) (u : DGs) : DGs := fun ds δ Q => match ds with
  | d :: r => t d δ fun δ' => u r δ' Q
  | [] => False
theorem dgs_nil : Dgs X Z [] [] gsNil := by
  refine ⟨pgs_imp pgs_nil fun vs σ H Q ⟨Hs, δ, ds, R, dps, q⟩ => ?_, fun ds δ Q Q' hq q => ?_⟩
  · cases dps with
    | nil => exact ⟨rfl, q σ R Agree.refl⟩
    | cons _ _ => exact q.elim
  · cases ds with
    | nil => exact hq _ q
    | cons _ _ => exact q
theorem dgs_cons {e : Expr} {es : List Expr} {ts us : List Nat} {t : DG} {u : DGs} (h1 : Dg X Z e ts t) (h2 : Dgs X Z es us u)
    (hs : (assignEach (e :: es) X.env).map (·.2) = assign e X.env :: (assignEach es X.env).map (·.2) := by rfl) : Dgs X Z (e :: es) (ts ++ us) (gsCons t u) := by
  refine ⟨pgs_imp (pgs_cons h1.run h2.run hs) fun vs σ H Q ⟨Hs, δ, ds, R, dps, q⟩ => ?_, fun ds δ Q Q' hq q => ?_⟩
  · cases dps with
    | nil => exact q.elim
    | cons d1 d2 => exact ⟨_, _, rfl, Hs, δ, _, R, d1, h1.mono _ _ _ _ (fun δ1 q σ1 R1 a1 => ⟨Hs, δ1, _, R1, d2, h2.mono _ _ _ _ (fun δ2 q σ2 R2 a2 => q σ2 R2 (a1.trans a2)) q⟩) q⟩
  · cases ds with
    | nil => exact q
    | cons d r => exact h1.mono _ _ _ _ (fun δ1 q => h2.mono _ _ _ _ hq q) q
def gTp (n : Nat) (t : DGs) : DG := fun d δ Q => match d with
  | .tuple xs => xs.length = n ∧ t xs δ Q
  | _ => False
theorem dg_tup {es : List Expr} {k : Nat} {ts : List Nat} {t : DGs} {n : Nat} (hc : X.calm = true) (h : Dgs X Z es ts t)
    (hn : (assignEach es X.env).length = n := by rfl) (hst : (assignEach es X.env).findIdx? (·.1) = none := by rfl) : Dg X Z (.Tuple es k pos) ts (gTp n t) := by
  refine ⟨pg_imp (pg_tup hc h.run hn hst) fun v σ H Q ⟨Hs, δ, d, R, dp, q⟩ => ?_, fun d δ Q Q' hq q => ?_⟩
  · unfold gTp at q
    split at q
    · cases dp with
      | tup hs ha => exact ⟨_, _, rfl, sqt_mono R.sub hs, by rw [ha.len]; exact q.1, Hs, δ, _, R, ha, q.2⟩
    · exact q.elim
  · unfold gTp at q ⊢
    split at q
    · exact ⟨q.1, h.mono _ _ _ _ hq q.2⟩
    · exact q
/-! ### assignments -/
def dAsg (t : DE) (g : DG) : DS := fun N δ => t δ fun d δ' => g d δ' N.nx
theorem ds_asg {tg e : Expr} {ts : List Nat} {t : DE} {g : DG} (he : De X Z e t) (hg : Dg X Z tg ts g) (hs : swapsWithSole [tg] e pos.line X.env = pure false := by rfl) (hw : swappedStores [tg] e X.env = pure none := by rfl)
    (h1 : (assignEach [tg] X.env).map (·.2) = [assign tg X.env] := by rfl) : Ds X Z (.Assign [tg] e pos) (dAsg t g) :=
  ⟨ps_imp (ps_asg he.run hg.run hs hw h1) fun D σ H ⟨Hs, δ, N, R, ok, q⟩ => ⟨Hs, δ, R, he.mono _ _ _ (fun d δ' q v Hs' H' s R' dp => ⟨Hs', δ', d, R', dp, hg.mono _ _ _ _ (fun δ2 q σ2 R2 _ => ok.nx σ2 δ2 Hs' H' s R2 q) q⟩) q⟩⟩
def dSet (i : Nat) (t : DE) : DS := fun N δ => t δ fun d δ' => N.nx (δ'.set i (some (.sh d)))
theorem ds_set {i : Nat} {x : Str} {e : Expr} {t : DE} {pos' : Pos} (hN : X.N.Nodup) (hi : X.N[i]? = some x) (hx : Loc X.env.scope x) (he : De X Z e t) (hs : swapsWith e (some (.Name x pos')) pos.line X.env = pure false := by rfl) (hf : X.fn x = true ∨ X.env.scope.names.lookup x = some .local := by first | exact .inl rfl | exact .inr rfl | assumption) :
    Ds X Z (.Assign [.Name x pos'] e pos) (dSet i t) :=
  ⟨ps_imp (ps_set hN hi hx he.run hs hf) fun D σ H ⟨Hs, δ, N, R, ok, q⟩ => ⟨Hs, δ, R, he.mono _ _ _ (fun d δ' q v Hs' H' s R' dp => ok.nx _ _ Hs' H' s (R'.set dp) q) q⟩⟩
def dSetO (i : Nat) (t : DL') : DS := fun N δ => t δ fun xs δ' => N.nx (δ'.set i (some (.ow false xs)))
theorem ds_setO {i : Nat} {x : Str} {e : Expr} {t : DL'} {pos' : Pos} (hN : X.N.Nodup) (hi : X.N[i]? = some x) (hx : Loc X.env.scope x) (he : Do X Z e t) (hs : swapsWith e (some (.Name x pos')) pos.line X.env = pure false := by rfl) (hf : X.fn x = true ∨ X.env.scope.names.lookup x = some .local := by first | exact .inl rfl | exact .inr rfl | assumption) :
    Ds X Z (.Assign [.Name x pos'] e pos) (dSetO i t) :=
  ⟨ps_imp (ps_set hN hi hx he.run hs hf) fun D σ H ⟨Hs, δ, N, R, ok, q⟩ => ⟨Hs, δ, R, he.mono _ _ _ (fun d δ' q v Hs' H' s R' f => ok.nx _ _ Hs' H' s (R'.setO f) q) q⟩⟩
def dPar (i j : Nat) (t : DL') : DS := fun N δ => t δ fun ds δ' => match ds with
  | [d, e] => N.nx ((δ'.set i (some (.sh d))).set j (some (.sh e)))
  | _ => False
theorem ds_par {i j : Nat} {x y : Str} {a b : Expr} {t : DL'} {px py pt : Pos} {kt k2 pt2} (hc : X.calm = true) (hN : X.N.Nodup) (hi : X.N[i]? = some x) (hj : X.N[j]? = some y) (hij : i ≠ j)
    (hx : X.env.scope.names.lookup x = some .local) (hy : X.env.scope.names.lookup y = some .local) (ha : Da X Z [a, b] t)
    (hp : ∀ ta, PA X [a, b] ta → PS X (.Assign [.Tuple [.Name x px, .Name y py] kt pt] (.Tuple [a, b] k2 pt2) pos) (tPar i j ta)) :
    Ds X Z (.Assign [.Tuple [.Name x px, .Name y py] kt pt] (.Tuple [a, b] k2 pt2) pos) (dPar i j t) := by
  refine ⟨ps_imp (hp _ ha.run) fun D σ H ⟨Hs, δ, N, R, ok, q⟩ => ⟨Hs, δ, R, ha.mono _ _ _ (fun ds δ' q vs Hs' H' s R' dps => ?_) q⟩⟩
  split at q
  · cases dps with
    | cons d1 d2 =>
      cases d2 with
      | cons d2 d3 =>
        cases d3
        exact ⟨_, _, rfl, ok.nx _ _ Hs' H' s ((R'.set d1).set d2) q⟩
  · exact q.elim
/-- bag[k] = e -/
def dSetIx (i : Nat) (t ti : DE) : DS := fun N δ => t δ fun d δ1 => match δ1[i]? with
  | some (some (.ow _ _)) => ti δ1 fun e δ2 => match e, δ2[i]? with
    | .int k, some (some (.ow p xs)) => ∃ j, ixN xs.length k = some j ∧ N.nx (δ2.set i (some (.ow p (xs.set j d))))
    | _, _ => False
  | _ => False
theorem ds_setix (i : Nat) {x : Str} {e ix : Expr} {t ti : DE} {p1 p2 : Pos} (he : De X Z e t) (hi : De X Z ix ti) (hN : X.N[i]? = some x := by rfl) (hv : Vis X.env.scope x := by first | exact Or.inl rfl | exact Or.inr (Or.inl rfl) | exact Or.inr (Or.inr rfl))
    (hd : (x == ("__debug__" : Str)) = false := by decide) (hcd : (x == ("__classdict__" : Str)) = false := by decide)
    (ha : ∀ v, assign (.Subscript (.Name x p1) ix p2) X.env v = (do
      let ov ← holding [v] (eval (.Name x p1) X.env)
      let iv ← holding [v, ov] (eval ix X.env)
      standAt p2
      holding [v, ov, iv] (setItem ov iv v)
      release [v, ov, iv] []) := by intro _; rfl)
    (hs : swapsWithSole [.Subscript (.Name x p1) ix p2] e pos.line X.env = pure false := by rfl) (hw : swappedStores [.Subscript (.Name x p1) ix p2] e X.env = pure none := by rfl)
    (h1 : (assignEach [.Subscript (.Name x p1) ix p2] X.env).map (·.2) = [assign (.Subscript (.Name x p1) ix p2) X.env] := by rfl) : Ds X Z (.Assign [.Subscript (.Name x p1) ix p2] e pos) (dSetIx i t ti) := by
  refine ⟨ps_imp (ps_asg he.run (pg_sub (pe_var hN hv hd hcd) hi.run set_list ha) hs hw h1) fun D σ H ⟨Hs, δ, N, R, ok, q⟩ => ⟨Hs, δ, R, he.mono _ _ _ (fun d δ1 q v Hs1 H1 s1 R1 dp => ?_) q⟩⟩
  split at q
  · rename_i p0 xs0 e0
    obtain ⟨a, ws0, hv, _⟩ := R1.own _ _ _ e0
    refine ⟨.ref a, hv, Hs1, δ1, R1, hi.mono _ _ _ (fun d2 δ2 q v2 Hs2 H2 s2 R2 dp2 => ?_) q⟩
    split at q
    · rename_i k p xs e1
      obtain ⟨j, ej, q⟩ := q
      obtain ⟨a', ws, h1, h2, h3, h4⟩ := R2.own _ _ _ e1
      rw [hv] at h1
      cases h1
      cases dp2
      refine ⟨a, ws, k, j, rfl, rfl, h2, by rw [h4.len]; exact ej, ?_⟩
      exact ok.nx _ _ Hs2 _ (s1.trans s2) (R2.mut e1 hv (h4.set (dp.up s2) j)) q
    · exact q.elim
  · exact q.elim
/-- xs.append(e) -/
def dApp (i : Nat) (t : DE) : DS := fun N δ => match δ[i]? with
  | some (some (.ow _ _)) => t δ fun d δ1 => match δ1[i]? with
    | some (some (.ow p xs)) => xs.length < sizeLine ∧ N.nx (δ1.set i (some (.ow p (xs ++ [d]))))
    | _ => False
  | _ => False
theorem ds_appP (i : Nat) {st : Stmt} {e : Expr} {t : DE} (he : De X Z e t) (hp : PS X st (tDrop (tBM X.K "list" rAppend (tVar i) (tCons (lE X.K Z t) tNil)))) : Ds X Z st (dApp i t) := by
  refine ⟨ps_imp hp fun D σ H ⟨Hs, δ, N, R, ok, q⟩ => ?_⟩
  unfold dApp at q
  split at q
  · rename_i p0 xs0 e0
    obtain ⟨a, ws0, hv, h20, _⟩ := R.own _ _ _ e0
    refine ⟨.ref a, hv, .inl ⟨rfl, _, SqL.of h20⟩, Hs, δ, R, he.mono _ _ _ (fun d2 δ2 q v2 Hs2 H2 s2 R2 dp2 => ?_) q⟩
    split at q
    · rename_i p xs e1
      obtain ⟨hz, q⟩ := q
      obtain ⟨a', ws, h1, h2, h3, h4⟩ := R2.own _ _ _ e1
      rw [hv] at h1
      cases h1
      refine ⟨a, ws, _, rfl, rfl, h2, by rw [h4.len]; exact hz, ?_⟩
      exact ok.nx _ _ Hs2 _ s2 (R2.mut e1 hv (h4.app (.cons dp2 .nil))) q
    · exact q.elim
  · exact q.elim
theorem ds_app (i : Nat) {x : Str} {e : Expr} {t : DE} {p1 apos cpos : Pos} (he : De X Z e t) (hN : X.N[i]? = some x := by rfl) (hv : Vis X.env.scope x := by first | exact Or.inl rfl | exact Or.inr (Or.inl rfl) | exact Or.inr (Or.inr rfl))
    (hd : (x == ("__debug__" : Str)) = false := by decide) (hcd : (x == ("__classdict__" : Str)) = false := by decide) (hbase : attributeBase (.Name x p1) "append" X.env (eval (.Name x p1) X.env) = eval (.Name x p1) X.env := by rfl)
    (hfew : ((backTo cpos (starEach [e] X.env)).all (fun x => !x.1) && (backToKw cpos (keywordEach [] X.env)).all (fun x => x.1.isSome)
      && decide (([e] : List Expr).length + ([] : List Keyword).length + (if ([] : List Keyword).isEmpty then 0 else 1) < 30)) = true := by rfl)
    (hline : (apos.endLine == cpos.line) = true := by rfl) (hs : starEach [e] X.env = (false, eval e X.env) :: starEach [] X.env := by rfl) (hplain : (backTo cpos (starEach [] X.env)).any (·.1) = false := by rfl)
    (hsw : swapsWith (.Call (.Attribute (.Name x p1) "append" apos) [e] [] cpos) none pos.line X.env = pure false := by rfl) : Ds X Z (.Expr (.Call (.Attribute (.Name x p1) "append" apos) [e] [] cpos) pos) (dApp i t) :=
  ds_appP i he (ps_expr (pe_bm PySem.F.plainAttrs_list PySem.F.slot_list_append PySem.F.type_list_append mt_append (pe_var hN hv hd hcd) (pa_cons he.run pa_nil hs) hbase hfew hline hs hplain) hsw)
/-- x += e, x -= e of ints -/
def dAug (i : Nat) (f : Int → Int → Int) (t : DE) : DS := fun N δ => match δ[i]? with
  | some (some (.sh (.int a))) => t δ fun d δ' => match d with
    | .int b => N.nx (δ'.set i (some (.sh (.int (f a b)))))
    | _ => False
  | _ => False
theorem ds_aug {i : Nat} {x : Str} {e : Expr} {t : DE} {op : Operator} {f : Int → Int → Int} {pos' : Pos} (hN : X.N.Nodup) (hi : X.N[i]? = some x) (hx : Loc X.env.scope x) (he : De X Z e t) (ho : PIp X op (ipI f))
    (hf : X.fn x = true ∨ X.env.scope.names.lookup x = some .local := by first | exact .inl rfl | exact .inr rfl | assumption) : Ds X Z (.AugAssign (.Name x pos') op e pos) (dAug i f t) := by
  refine ⟨ps_imp (ps_aug hN hi hx he.run ho hf) fun D σ H ⟨Hs, δ, N, R, ok, q⟩ => ?_⟩
  unfold dAug at q
  split at q
  · rename_i a e0
    obtain ⟨v, hv, dv⟩ := R.shr _ _ e0
    cases dv
    refine ⟨_, hv, Hs, δ, R, he.mono _ _ _ (fun d2 δ2 q v2 Hs2 H2 s2 R2 dp2 => ?_) q⟩
    split at q
    · cases dp2
      exact ⟨_, _, rfl, rfl, ok.nx _ _ Hs2 H2 s2 (R2.set (.int _)) q⟩
    · exact q.elim
  · exact q.elim
end
end DL

namespace DL
open PySem PySem.Spec L2
/-! ### what is walked -/
def Walks (K : Fg) (J : It) (Hs : Hp) (items : List PyData) : Prop := ∀ (Z : Ent) (Hs2 H : Hp) (σ : St) (δ : DSt), Same Hs Hs2 → Rl K Z Hs2 H σ δ →
  (∀ i, i < items.length → J.go i H) ∧ J.stop items.length H ∧ ∀ i x H', i < items.length → J.yld i H x H' → ∃ d Hs3, items[i]? = some d ∧ Same Hs2 Hs3 ∧ Rl K Z Hs3 H' σ δ ∧ Dp K Hs3 x d
def lI (K : Fg) (Z : Ent) (t : DL') : TI := fun σ H R => ∃ Hs δ, Rl K Z Hs H σ δ ∧ t δ fun items δ' => ∀ J Hs' H', Same Hs Hs' → Rl K Z Hs' H' σ δ' → Walks K J Hs' items → R J H'
structure Dit (X : Cx) (Z : Ent) (tg iter : Expr) (t : DL') : Prop where
  run : PI X tg iter (lI X.K Z t)
  mono : ∀ (δ : DSt) (Q Q' : List PyData → DSt → Prop), (∀ d δ', Q d δ' → Q' d δ') → t δ Q → t δ Q'
theorem pi_imp {X : Cx} {tg e : Expr} {t t' : TI} (h : PI X tg e t) (i : ∀ σ H Q, t' σ H Q → t σ H Q) : PI X tg e t' := ⟨fun pins s σ H Q I h' => h.run pins s σ H Q I (i σ H Q h')⟩
/-- lo, lo + 1, .. -/
def rngD (lo : Int) : Nat → List PyData
  | 0 => []
  | n + 1 => .int lo :: rngD (lo + 1) n
theorem rngD_len (lo : Int) (n : Nat) : (rngD lo n).length = n := by
  induction n generalizing lo with
  | zero => rfl
  | succ n ih => show (rngD (lo + 1) n).length + 1 = n + 1; rw [ih]
theorem rngD_get {lo : Int} {n i : Nat} (h : i < n) : (rngD lo n)[i]? = some (.int (lo + i)) := by
  induction n generalizing lo i with
  | zero => omega
  | succ n ih =>
    cases i with
    | zero => show some (PyData.int lo) = _; simp
    | succ i =>
      show (rngD (lo + 1) n)[i]? = _
      rw [ih (by omega)]
      have : lo + 1 + (i : Int) = lo + ((i + 1 : Nat) : Int) := by omega
      rw [this]
section
variable {X : Cx} {Z : Ent} {pos : Pos} {tg : Expr}
theorem walks_list {K : Fg} {Hs : Hp} {a : Addr} {xs : List V} {ds : List PyData} (hs : SqL K Hs a xs) (ha : DpAll K Hs xs ds) : Walks K (Itl K a) Hs ds := fun Z Hs2 H σ δ s R => by
  have q : SqL K H a xs := (s.trans R.sub).seq hs
  refine ⟨fun i hi => ⟨xs, xs[i]'(by rw [ha.len]; exact hi), q, by simp [ha.len, hi]⟩, ⟨xs, q, by rw [ha.len]; exact Nat.le_refl _⟩, fun i x H' hi y => ?_⟩
  obtain ⟨rfl, y⟩ := y
  obtain ⟨d, e1, e2⟩ := ha.getV (y xs q)
  exact ⟨d, Hs2, e1, Same.refl _, R, e2.up s⟩
theorem walks_tup {K : Fg} {Hs : Hp} {a : Addr} {xs : List V} {ds : List PyData} (hs : SqT K Hs a xs) (ha : DpAll K Hs xs ds) : Walks K (Itt K a) Hs ds := fun Z Hs2 H σ δ s R => by
  have q : SqT K H a xs := sqt_mono (s.trans R.sub) hs
  refine ⟨fun i hi => ⟨xs, xs[i]'(by rw [ha.len]; exact hi), q, by simp [ha.len, hi]⟩, ⟨xs, q, by rw [ha.len]; exact Nat.le_refl _⟩, fun i x H' hi y => ?_⟩
  obtain ⟨rfl, y⟩ := y
  obtain ⟨d, e1, e2⟩ := ha.getV (y xs q)
  exact ⟨d, Hs2, e1, Same.refl _, R, e2.up s⟩
theorem walks_range {K : Fg} {Hs : Hp} {lo : Int} {n : Nat} : Walks K (Itr lo n) Hs (rngD lo n) := fun Z Hs2 H σ δ s R => by
  rw [rngD_len]
  refine ⟨fun i hi => hi, Nat.le_refl _, fun i x H' hi y => ?_⟩
  obtain ⟨rfl, rfl⟩ := y
  exact ⟨_, Hs2, rngD_get hi, Same.refl _, R, .int _⟩
def zipD : List PyData → List PyData → List PyData
  | x :: xs, y :: ys => .tuple [x, y] :: zipD xs ys
  | _, _ => []
theorem zipD_len : ∀ xs ys : List PyData, (zipD xs ys).length = min xs.length ys.length
  | [], _ => by unfold zipD; simp
  | _ :: _, [] => by unfold zipD; simp
  | x :: xs, y :: ys => by
    show (zipD xs ys).length + 1 = min (xs.length + 1) (ys.length + 1)
    rw [zipD_len xs ys]
    omega
theorem zipD_get : ∀ {xs ys : List PyData} {i : Nat} {x y : PyData}, xs[i]? = some x → ys[i]? = some y → (zipD xs ys)[i]? = some (.tuple [x, y])
  | [], _, _, _, _, h, _ => by simp at h
  | _ :: _, [], _, _, _, _, h => by simp at h
  | x :: xs, y :: ys, 0, _, _, h1, h2 => by
    simp at h1 h2
    subst h1 h2
    rfl
  | x :: xs, y :: ys, i + 1, _, _, h1, h2 => by
    show (zipD xs ys)[i]? = _
    exact zipD_get (by simpa using h1) (by simpa using h2)
theorem walks_zip {K : Fg} {Hs : Hp} {a b : Addr} {xs ys : List V} {ds es : List PyData} (hs : SqL K Hs a xs) (ha : DpAll K Hs xs ds) (hs2 : SqL K Hs b ys) (ha2 : DpAll K Hs ys es) : Walks K (Itz K a b) Hs (zipD ds es) := fun Z Hs2 H σ δ s R => by
  have q : SqL K H a xs := (s.trans R.sub).seq hs
  have q2 : SqL K H b ys := (s.trans R.sub).seq hs2
  rw [zipD_len]
  have l1 := ha.len
  have l2 := ha2.len
  refine ⟨fun i hi => ?_, ⟨xs, ys, q, q2, by omega⟩, fun i x H' hi y => ?_⟩
  · have h1 : i < xs.length := by omega
    have h2 : i < ys.length := by omega
    exact ⟨xs, ys, xs[i], ys[i], q, q2, by simp [h1], by simp [h2]⟩
  · obtain ⟨T, x1, x2, rfl, nT, rfl, f1, f2⟩ := y
    obtain ⟨d, e1, e2⟩ := ha.getV (f1 xs q)
    obtain ⟨d', e1', e2'⟩ := ha2.getV (f2 ys q2)
    have s2 : Same Hs2 (upd Hs2 T (.tup [x1, x2])) := same_new (R.hsn nT)
    exact ⟨_, _, zipD_get e1 e1', s2, R.alloc nT, .tup (SqT.of upd_same) (.cons ((e2.up s).up s2) (.cons ((e2'.up s).up s2) .nil))⟩
def enumD (i : Nat) : List PyData → List PyData
  | [] => []
  | x :: xs => .tuple [.int (i : Nat), x] :: enumD (i + 1) xs
theorem enumD_len : ∀ (i : Nat) (xs : List PyData), (enumD i xs).length = xs.length
  | _, [] => rfl
  | i, x :: xs => by show (enumD (i + 1) xs).length + 1 = xs.length + 1; rw [enumD_len]
theorem enumD_get : ∀ {j : Nat} {xs : List PyData} {i : Nat} {x : PyData}, xs[i]? = some x → (enumD j xs)[i]? = some (.tuple [.int ((j + i : Nat)), x])
  | _, [], _, _, h => by simp at h
  | j, x :: xs, 0, _, h => by simp at h; subst h; rfl
  | j, x :: xs, i + 1, _, h => by
    show (enumD (j + 1) xs)[i]? = _
    rw [enumD_get (by simpa using h)]
    rw [show j + 1 + i = j + (i + 1) by omega]
theorem walks_enum {K : Fg} {Hs : Hp} {a : Addr} {xs : List V} {ds : List PyData} (hs : SqL K Hs a xs) (ha : DpAll K Hs xs ds) : Walks K (Ite K a) Hs (enumD 0 ds) := fun Z Hs2 H σ δ s R => by
  have q : SqL K H a xs := (s.trans R.sub).seq hs
  rw [enumD_len]
  refine ⟨fun i hi => ⟨xs, xs[i]'(by rw [ha.len]; exact hi), q, by simp [ha.len, hi]⟩, ⟨xs, q, by rw [ha.len]; exact Nat.le_refl _⟩, fun i x H' hi y => ?_⟩
  obtain ⟨T, x1, rfl, nT, rfl, f1⟩ := y
  obtain ⟨d, e1, e2⟩ := ha.getV (f1 xs q)
  have s2 : Same Hs2 (upd Hs2 T (.tup [.int (i : Nat), x1])) := same_new (R.hsn nT)
  refine ⟨_, _, enumD_get e1, s2, R.alloc nT, ?_⟩
  rw [Nat.zero_add]
  exact .tup (SqT.of upd_same) (.cons (.int _) (.cons ((e2.up s).up s2) .nil))
/-- over a list or a tuple as a value -/
def iLst (t : DE) : DL' := fun δ Q => t δ fun d δ' => match d with
  | .list xs => Q xs δ'
  | _ => False
def iTpl (t : DE) : DL' := fun δ Q => t δ fun d δ' => match d with
  | .tuple xs => Q xs δ'
  | _ => False
theorem di_list {e : Expr} {t : DE} (h : De X Z e t) : Dit X Z tg e (iLst t) := by
  refine ⟨pi_imp (pi_list h.run) fun σ H R ⟨Hs, δ, Rr, q⟩ => ⟨Hs, δ, Rr, h.mono _ _ _ (fun d δ1 q v Hs1 H1 s1 R1 dp => ?_) q⟩, fun δ Q Q' hq q => h.mono _ _ _ (fun d δ' z => ?_) q⟩
  · split at q
    · cases dp with
      | lst hs ha => exact ⟨_, rfl, ⟨_, R1.sub.seq hs⟩, q _ Hs1 H1 s1 R1 (walks_list hs ha)⟩
    · exact q.elim
  · split at z
    · exact hq _ _ z
    · exact z
theorem di_tup {e : Expr} {t : DE} (h : De X Z e t) : Dit X Z tg e (iTpl t) := by
  refine ⟨pi_imp (pi_tup h.run) fun σ H R ⟨Hs, δ, Rr, q⟩ => ⟨Hs, δ, Rr, h.mono _ _ _ (fun d δ1 q v Hs1 H1 s1 R1 dp => ?_) q⟩, fun δ Q Q' hq q => h.mono _ _ _ (fun d δ' z => ?_) q⟩
  · split at q
    · cases dp with
      | tup hs ha => exact ⟨_, rfl, ⟨_, sqt_mono R1.sub hs⟩, q _ Hs1 H1 s1 R1 (walks_tup hs ha)⟩
    · exact q.elim
  · split at z
    · exact hq _ _ z
    · exact z
def iRg1 (t : DL') : DL' := fun δ Q => t δ fun ds δ' => match ds with
  | [.int j] => -(2 ^ 62) ≤ j ∧ j < 2 ^ 62 ∧ Q (rngD 0 j.toNat) δ'
  | _ => False
theorem di_range1 {a : Expr} {t : DL'} {p : Pos} (hg : Gl X "range") (hm : X.mg "range" = none) (ha : Da X Z [a] t) (hs : starEach [a] X.env = [(false, eval a X.env)] := by rfl) : Dit X Z tg (.Call (.Name "range" p) [a] [] pos) (iRg1 t) := by
  refine ⟨pi_imp (pi_range1 hg hm ha.run hs) fun σ H R ⟨Hs, δ, Rr, q⟩ => ⟨Hs, δ, Rr, ha.mono _ _ _ (fun ds δ1 q vs Hs1 H1 s1 R1 dps => ?_) q⟩, fun δ Q Q' hq q => ha.mono _ _ _ (fun d δ' z => ?_) q⟩
  · split at q
    · cases dps with
      | cons d1 d2 =>
        cases d1
        cases d2
        exact ⟨_, rfl, q.1, q.2.1, q.2.2 _ Hs1 H1 s1 R1 walks_range⟩
    · exact q.elim
  · split at z
    · exact ⟨z.1, z.2.1, hq _ _ z.2.2⟩
    · exact z
def iRg2 (t : DL') : DL' := fun δ Q => t δ fun ds δ' => match ds with
  | [.int i, .int j] => (-(2 ^ 62) ≤ i ∧ i < 2 ^ 62 ∧ -(2 ^ 62) ≤ j ∧ j < 2 ^ 62) ∧ Q (rngD i (j - i).toNat) δ'
  | _ => False
theorem di_range2 {a b : Expr} {t : DL'} {p : Pos} (hg : Gl X "range") (hm : X.mg "range" = none) (ha : Da X Z [a, b] t) (hs : starEach [a, b] X.env = [(false, eval a X.env), (false, eval b X.env)] := by rfl) (hs2 : starEach [b] X.env = [(false, eval b X.env)] := by rfl) : Dit X Z tg (.Call (.Name "range" p) [a, b] [] pos) (iRg2 t) := by
  refine ⟨pi_imp (pi_range2 hg hm ha.run hs hs2) fun σ H R ⟨Hs, δ, Rr, q⟩ => ⟨Hs, δ, Rr, ha.mono _ _ _ (fun ds δ1 q vs Hs1 H1 s1 R1 dps => ?_) q⟩, fun δ Q Q' hq q => ha.mono _ _ _ (fun d δ' z => ?_) q⟩
  · split at q
    · cases dps with
      | cons d1 d2 =>
        cases d1
        cases d2 with
        | cons d2 d3 =>
          cases d2
          cases d3
          exact ⟨_, _, rfl, q.1, q.2 _ Hs1 H1 s1 R1 walks_range⟩
    · exact q.elim
  · split at z
    · exact ⟨z.1, hq _ _ z.2⟩
    · exact z
def iZp (t : DL') : DL' := fun δ Q => t δ fun ds δ' => match ds with
  | [.list xs, .list ys] => Q (zipD xs ys) δ'
  | _ => False
theorem di_zip {e e2 : Expr} {t : DL'} {p tpos : Pos} {elts : List Expr} {kk : Nat} (hg : Gl X "zip") (hm : X.mg "zip" = none) (ha : Da X Z [e, e2] t)
    (hs : starEach [e, e2] X.env = (false, eval e X.env) :: starEach [e2] X.env := by rfl) (hpl : (backTo pos (starEach [e2] X.env)).any (·.1) = false := by rfl) : Dit X Z (.Tuple elts kk tpos) (.Call (.Name "zip" p) [e, e2] [] pos) (iZp t) := by
  refine ⟨pi_imp (pi_zip hg hm ha.run hs hpl) fun σ H R ⟨Hs, δ, Rr, q⟩ => ⟨Hs, δ, Rr, ha.mono _ _ _ (fun ds δ1 q vs Hs1 H1 s1 R1 dps => ?_) q⟩, fun δ Q Q' hq q => ha.mono _ _ _ (fun d δ' z => ?_) q⟩
  · split at q
    · cases dps with
      | cons d1 d2 =>
        cases d2 with
        | cons d2 d3 =>
          cases d3
          cases d1 with
          | lst hs ha =>
            cases d2 with
            | lst hs2 ha2 => exact ⟨_, _, _, _, rfl, R1.sub.seq hs, R1.sub.seq hs2, q _ Hs1 H1 s1 R1 (walks_zip hs ha hs2 ha2)⟩
    · exact q.elim
  · split at z
    · exact hq _ _ z
    · exact z
def iEn (t : DL') : DL' := fun δ Q => t δ fun ds δ' => match ds with
  | [.list xs] => Q (enumD 0 xs) δ'
  | _ => False
theorem di_enum {e : Expr} {t : DL'} {p tpos : Pos} {elts : List Expr} {kk : Nat} (hg : Gl X "enumerate") (hm : X.mg "enumerate" = none) (ha : Da X Z [e] t) (hs : starEach [e] X.env = [(false, eval e X.env)] := by rfl) : Dit X Z (.Tuple elts kk tpos) (.Call (.Name "enumerate" p) [e] [] pos) (iEn t) := by
  refine ⟨pi_imp (pi_enum hg hm ha.run hs) fun σ H R ⟨Hs, δ, Rr, q⟩ => ⟨Hs, δ, Rr, ha.mono _ _ _ (fun ds δ1 q vs Hs1 H1 s1 R1 dps => ?_) q⟩, fun δ Q Q' hq q => ha.mono _ _ _ (fun d δ' z => ?_) q⟩
  · split at q
    · cases dps with
      | cons d1 d2 =>
        cases d2
        cases d1 with
        | lst hs ha => exact ⟨_, _, rfl, R1.sub.seq hs, q _ Hs1 H1 s1 R1 (walks_enum hs ha)⟩
    · exact q.elim
  · split at z
    · exact hq _ _ z
    · exact z
/-! ### for -/
def dForL (g : DG) (body : DS) (N : DEnds) : List PyData → DSt → Prop
  | [], δ => N.nx δ
  | d :: r, δ => g d δ fun δ' => body { N with nx := dForL g body N r, ct := dForL g body N r, bk := N.nx } δ'
def dFor (ti : DL') (g : DG) (body : DS) : DS := fun N δ => ti δ fun items δ' => dForL g body N items δ'
theorem ds_for {iter : Expr} {body : List Stmt} {ti : DL'} {ts : List Nat} {g : DG} {tb : DS} (hp : PassesOwn (model X.prog X.w) X.A X.env X.xe) (hc : X.calm = true) (hi : Dit X Z tg iter ti) (hg : Dg X Z tg ts g) (hb : Dss X Z body tb)
    (hs : ∀ x, foldedSetIterable iter X.env x = pure x := by intro _; rfl) : Ds X Z (.For tg iter body [] pos) (dFor ti g tb) := by
  refine ⟨ps_imp (ps_for hp hc hi.run hg.run hb.run hs) fun D σ H ⟨Hs, δ, N, R, ok, q⟩ => ⟨Hs, δ, R, hi.mono _ _ _ (fun items δ1 q J Hs1 H1 s1 R1 w => ?_) q⟩⟩
  refine ⟨fun i m σ' H' => m = items.length - i ∧ i ≤ items.length ∧ ∃ Hs2 δ2, Same Hs1 Hs2 ∧ Rl X.K Z Hs2 H' σ' δ2 ∧ dForL g tb N (items.drop i) δ2, ⟨items.length, by simp, Nat.zero_le _, Hs1, δ1, Same.refl _, R1, q⟩, ?_⟩
  rintro i m σ' H' ⟨rfl, hi, Hs2, δ2, s2, R2, q2⟩
  obtain ⟨w1, w2, w3⟩ := w Z Hs2 H' σ' δ2 s2 R2
  by_cases hlt : i < items.length
  · refine .inr ⟨w1 i hlt, fun σ3 H3 => ∃ Hs3 δ3, Same Hs1 Hs3 ∧ Rl X.K Z Hs3 H3 σ3 δ3 ∧ dForL g tb N (items.drop (i + 1)) δ3, fun σ3 H3 z => ⟨items.length - (i + 1), by omega, rfl, hlt, z⟩, fun x H3 y => ?_⟩
    obtain ⟨d, Hs3, e, s3, R3, dp⟩ := w3 i x H3 hlt y
    have ed : items.drop i = d :: items.drop (i + 1) := by
      obtain ⟨h1, h2⟩ := List.getElem?_eq_some_iff.mp e
      rw [← h2]
      exact List.drop_eq_getElem_cons h1
    rw [ed] at q2
    refine ⟨Hs3, δ2, d, R3, dp, hg.mono _ _ _ _ (fun δ4 q4 σ4 R4 _ => ?_) q2⟩
    refine ⟨Hs3, δ4, { N with nx := dForL g tb N (items.drop (i + 1)), ct := dForL g tb N (items.drop (i + 1)), bk := N.nx }, R4, ⟨fun σ5 δ5 Hs5 H5 s5 R5 q5 => ⟨Hs5, δ5, (s2.trans s3).trans s5, R5, q5⟩, fun σ5 δ5 Hs5 H5 v d s5 => ok.rt σ5 δ5 Hs5 H5 v d (((s1.trans s2).trans s3).trans s5), fun σ5 δ5 Hs5 H5 v d s5 => ok.ro σ5 δ5 Hs5 H5 v d (((s1.trans s2).trans s3).trans s5),
      fun σ5 δ5 Hs5 H5 s5 => ok.nx σ5 δ5 Hs5 H5 (((s1.trans s2).trans s3).trans s5), fun σ5 δ5 Hs5 H5 s5 R5 q5 => ⟨Hs5, δ5, (s2.trans s3).trans s5, R5, q5⟩⟩, q4⟩
  · have e : i = items.length := by omega
    subst e
    rw [List.drop_length] at q2
    exact .inl ⟨w2, ok.nx σ' δ2 Hs2 H' (s1.trans s2) R2 q2⟩
/-! ### while -/
def dWhile (c : DT) (body : DS) : DS := fun N δ => ∃ W : Nat → DSt → Prop, (∃ m, W m δ) ∧ ∀ m δ, W m δ → c δ fun b δ1 => match b with
  | true => body { N with nx := fun δ' => ∃ m', m' < m ∧ W m' δ', ct := fun δ' => ∃ m', m' < m ∧ W m' δ', bk := N.nx } δ1
  | false => N.nx δ1
theorem ds_while {c : Expr} {body : List Stmt} {tc : DT} {tb : DS} (hp : PassesOwn (model X.prog X.w) X.A X.env X.xe) (hc : Dt X Z c tc) (hb : Dss X Z body tb) : Ds X Z (.While c body [] pos) (dWhile tc tb) := by
  refine ⟨ps_imp (ps_while hp hc.run hb.run) fun D σ H ⟨Hs, δ, N, R, ok, q⟩ => ?_⟩
  obtain ⟨W, ⟨m0, w0⟩, turn⟩ := q
  refine ⟨fun m σ' H' => ∃ Hs2 δ2, Same Hs Hs2 ∧ Rl X.K Z Hs2 H' σ' δ2 ∧ W m δ2, ⟨m0, Hs, δ, Same.refl _, R, w0⟩, ?_⟩
  rintro m σ' H' ⟨Hs2, δ2, s2, R2, w2⟩
  refine ⟨Hs2, δ2, R2, hc.mono _ _ _ (fun b δ3 q3 Hs3 H3 s3 R3 => ?_) (turn m δ2 w2)⟩
  cases b with
  | true =>
    rw [if_pos rfl]
    refine ⟨fun σ4 H4 => ∃ m', m' < m ∧ ∃ Hs4 δ4, Same Hs Hs4 ∧ Rl X.K Z Hs4 H4 σ4 δ4 ∧ W m' δ4, fun σ4 H4 z => z, ?_⟩
    refine ⟨Hs3, δ3, { N with nx := fun δ' => ∃ m', m' < m ∧ W m' δ', ct := fun δ' => ∃ m', m' < m ∧ W m' δ', bk := N.nx }, R3, ⟨fun σ5 δ5 Hs5 H5 s5 R5 q5 => ?_, fun σ5 δ5 Hs5 H5 v d s5 => ok.rt σ5 δ5 Hs5 H5 v d ((s2.trans s3).trans s5), fun σ5 δ5 Hs5 H5 v d s5 => ok.ro σ5 δ5 Hs5 H5 v d ((s2.trans s3).trans s5),
      fun σ5 δ5 Hs5 H5 s5 => ok.nx σ5 δ5 Hs5 H5 ((s2.trans s3).trans s5), fun σ5 δ5 Hs5 H5 s5 R5 q5 => ?_⟩, q3⟩
    · obtain ⟨m', hm, w⟩ := q5
      exact ⟨m', hm, Hs5, δ5, (s2.trans s3).trans s5, R5, w⟩
    · obtain ⟨m', hm, w⟩ := q5
      exact ⟨m', hm, Hs5, δ5, (s2.trans s3).trans s5, R5, w⟩
  | false =>
    rw [if_neg Bool.false_ne_true]
    exact ok.nx σ' δ3 Hs3 H3 (s2.trans s3) R3 q3
end
/-! ### comprehensions -/
def dwipe (δ : DSt) : List Nat → DSt
  | [] => δ
  | v :: vs => (dwipe δ vs).set v none
theorem dwipe_some {δ : DSt} {i : Nat} {x : Sl} : ∀ {vs : List Nat}, (dwipe δ vs)[i]? = some (some x) → δ[i]? = some (some x) ∧ i ∉ vs
  | [], h => ⟨h, by simp⟩
  | v :: vs, h => by
    rcases get_set h with ⟨rfl, z⟩ | ⟨ne, z⟩
    · cases z
    · obtain ⟨h1, h2⟩ := dwipe_some z
      exact ⟨h1, by simp only [List.mem_cons, not_or]; exact ⟨fun e => ne e.symm, h2⟩⟩
theorem dwipe_len {δ : DSt} : ∀ (vs : List Nat), (dwipe δ vs).length = δ.length
  | [] => rfl
  | v :: vs => by unfold dwipe; rw [List.length_set, dwipe_len vs]
theorem dwipe_get {δ : DSt} {j : Nat} : ∀ {vs : List Nat}, j ∉ vs → (dwipe δ vs)[j]? = δ[j]?
  | [], _ => rfl
  | v :: vs, h => by
    rw [List.mem_cons, not_or] at h
    show ((dwipe δ vs).set v none)[j]? = _
    rw [List.getElem?_set_ne (fun e => h.1 e.symm)]
    exact dwipe_get h.2
section
variable {K : Fg} {Z : Ent} {Hs H : Hp} {σ σ' : St} {δ : DSt}
/-- the slots vs forgotten, others as in σ -/
theorem Rl.reslot (R : Rl K Z Hs H σ δ) {vs : List Nat} (hl : σ'.length = σ.length) (h : ∀ j, j ∉ vs → σ'[j]? = σ[j]?) : Rl K Z Hs H σ' (dwipe δ vs) := by
  refine ⟨by rw [hl, dwipe_len, R.len], R.sub, R.ext, R.fr, R.new, R.hid, fun j d e => ?_, ?_, R.grd, fun j t e p => by rw [h j (dwipe_some e).2]; exact R.prm j t (dwipe_some e).1 p, fun j C e => by rw [h j (dwipe_some e).2]; exact R.exn j C (dwipe_some e).1⟩
  · obtain ⟨e, nv⟩ := dwipe_some e
    rw [h j nv]
    exact R.shr j d e
  · obtain ⟨f, F⟩ := R.fps
    have m1 : ∀ {i : Nat} {a : Addr}, a ∈ (if i ∈ vs then [] else f i) → i ∉ vs ∧ a ∈ f i := fun {i a} m => by
      split at m
      · exact nomatch m
      · rename_i n
        exact ⟨n, m⟩
    refine ⟨fun i => if i ∈ vs then [] else f i, ⟨fun i s e o => ?_, fun i e => ?_, fun i a m => F.hs i a (m1 m).2, fun i a m => F.old i a (m1 m).2, fun i s a e p m => F.mine i s a (dwipe_some e).1 p (m1 m).2, fun i j a n m m' => F.dis i j a n (m1 m).2 (m1 m').2, fun i a o m => F.g i a o (m1 m).2⟩⟩
    · obtain ⟨e, nv⟩ := dwipe_some e
      show ∃ v, _ ∧ At K Hs H v s (if i ∈ vs then [] else f i)
      rw [h i nv, if_neg nv]
      exact F.at_ i s e o
    · show (if i ∈ vs then [] else f i) = []
      split
      · rfl
      · rename_i n
        refine F.emp i fun s z => e s ?_
        rw [dwipe_get n]
        exact z
theorem FrA.reslot {v : V} {s : Sl} {A : List Addr} (R : Rl K Z Hs H σ δ) (c : FrA K Z Hs H σ δ v s A) {vs : List Nat} (h : ∀ j, j ∉ vs → σ'[j]? = σ[j]?) : FrA K Z Hs H σ' (dwipe δ vs) v s A := by
  refine ⟨c.at_, c.hs, c.mine, fun f' F' j a m m' => ?_, c.g⟩
  obtain ⟨f, F⟩ := R.fps
  by_cases n : j ∈ vs
  · rw [F'.emp j fun s z => absurd n (dwipe_some z).2] at m'
    exact nomatch m'
  · rw [F.eqj F' j (dwipe_get n) (fun v z => by rw [h j n]; exact z) fun _ _ => rfl] at m'
    exact c.dis f F j a m m'
theorem FrO.reslot {v : V} {xs : List PyData} (R : Rl K Z Hs H σ δ) (c : FrO K Z Hs H σ δ v xs) {vs : List Nat} (h : ∀ j, j ∉ vs → σ'[j]? = σ[j]?) : FrO K Z Hs H σ' (dwipe δ vs) v xs := by
  obtain ⟨A, c⟩ := c
  exact ⟨A, c.reslot R h⟩
theorem wipe_out' {σ : St} {i : Nat} : ∀ {vs : List Nat}, i ∉ vs → (wipe σ vs)[i]? = σ[i]? := fun {vs} h => wipe_out h
theorem wipe_eq {σ σ' : St} : ∀ {vs : List Nat}, σ'.length = σ.length → (∀ j, j ∉ vs → σ'[j]? = σ[j]?) → wipe σ' vs = wipe σ vs := fun {vs} hl h => by
  apply List.ext_getElem?
  intro j
  by_cases hj : j ∈ vs
  · have aux : ∀ (τ : St) (ws : List Nat), j ∈ ws → (wipe τ ws)[j]? = if j < τ.length then some none else none := by
      intro τ ws
      induction ws with
      | nil => intro z; cases z
      | cons v ws ih =>
        intro z
        unfold wipe
        by_cases e : v = j
        · subst e
          rw [List.getElem?_set]
          rw [if_pos rfl, wipe_length]
        · rw [List.getElem?_set_ne e]
          exact ih ((List.mem_cons.mp z).resolve_left fun q => e q.symm)
    rw [aux σ' vs hj, aux σ vs hj, hl]
  · rw [wipe_out hj, wipe_out hj, h j hj]
/-- one more guard -/
abbrev Ent.gd (Z : Ent) (D : Addr) (o : HO) : Ent := ⟨Z.H0, Z.Hs0, Z.own, (D, o) :: Z.G, Z.σ0, Z.xa, Z.ex⟩
theorem Fps.ungd {D : Addr} {o : HO} {f : Nat → List Addr} (F : Fps K (Z.gd D o) Hs H σ δ f) : Fps K Z Hs H σ δ f := ⟨F.at_, F.emp, F.hs, F.old, F.mine, F.dis, fun i a u m z => F.g i a u m (List.mem_cons_of_mem _ z)⟩
theorem Rl.guard (R : Rl K Z Hs H σ δ) {D : Addr} {o : HO} (h1 : H D = some o) (h2 : Hs D = none) (h3 : D ∉ Z.own) (h4 : ∀ f, Fps K Z Hs H σ δ f → ∀ j, D ∉ f j) : Rl K (Z.gd D o) Hs H σ δ := by
  refine ⟨R.len, R.sub, R.ext, R.fr, R.new, R.hid, R.shr, ?_, fun a u m => ?_, R.prm, R.exn⟩
  · obtain ⟨f, F⟩ := R.fps
    refine ⟨f, ⟨F.at_, F.emp, F.hs, F.old, F.mine, F.dis, fun i a u m z => ?_⟩⟩
    rcases List.mem_cons.mp z with e | z
    · cases e
      exact h4 f F i m
    · exact F.g i a u m z
  · rcases List.mem_cons.mp m with e | m
    · cases e
      exact ⟨h1, h2, h3⟩
    · exact R.grd a u m
/-- a list of one's own is guarded -/
theorem FrO.guard {v : V} {xs : List PyData} (R : Rl K Z Hs H σ δ) (c : FrO K Z Hs H σ δ v xs) : ∃ D ws, v = .ref D ∧ H D = some (.lst ws) ∧ Hs D = none ∧ DpAll K Hs ws xs ∧ Z.H0 D = none ∧ (∀ u, (D, u) ∉ Z.G) ∧ Rl K (Z.gd D (.lst ws)) Hs H σ δ := by
  obtain ⟨A, c⟩ := c
  obtain ⟨a, ws, rfl, rfl, h1, h3⟩ := c.lst
  have m : a ∈ [a] := List.mem_singleton.mpr rfl
  exact ⟨a, ws, rfl, h1, c.hs a m, h3, (c.mine a m).1, fun u => c.g a u m, R.guard h1 (c.hs a m) (c.mine a m).2 fun f F j => c.dis f F j a m⟩
/-- the guard is changed and let go -/
theorem Rl.unguard {D : Addr} {o o' : HO} (hG : ∀ u, (D, u) ∉ Z.G) (hD : Z.H0 D = none) (R : Rl K (Z.gd D o) Hs H σ δ) : Rl K Z Hs (upd H D o') σ δ := by
  obtain ⟨g1, g2, g3⟩ := R.grd D o (List.mem_cons_self ..)
  refine ⟨R.len, fun b x e => ?_, R.ext, fun b x e n => ?_, R.new, fun b e => ?_, R.shr, ?_, fun a u m => ?_, R.prm, R.exn⟩
  · rw [upd_ne (ne_of_none e g2)]
    exact R.sub b x e
  · rw [upd_ne (ne_of_none e hD)]
    exact R.fr b x e n
  · obtain ⟨z1, z2⟩ := R.hid b e
    have hb : b ≠ D := fun z => g3 (z ▸ e)
    rw [upd_ne hb]
    exact ⟨z1, z2⟩
  · obtain ⟨f, F⟩ := R.fps
    refine ⟨f, ⟨fun i s e z => ?_, F.emp, F.hs, F.old, F.mine, F.dis, F.ungd.g⟩⟩
    obtain ⟨v, k1, k2⟩ := F.at_ i s e z
    refine ⟨v, k1, k2.fr (Same.refl _) fun a m => ?_⟩
    have hb : a ≠ D := fun q => F.g i a o m (by rw [q]; exact List.mem_cons_self ..)
    rw [upd_ne hb]
  · obtain ⟨z1, z2, z3⟩ := R.grd a u (List.mem_cons_of_mem _ m)
    have hb : a ≠ D := fun z => hG u (z ▸ m)
    exact ⟨by rw [upd_ne hb]; exact z1, z2, z3⟩
theorem Rl.unguard0 {D : Addr} {o : HO} (R : Rl K (Z.gd D o) Hs H σ δ) : Rl K Z Hs H σ δ :=
  ⟨R.len, R.sub, R.ext, R.fr, R.new, R.hid, R.shr, R.fps.elim fun f F => ⟨f, F.ungd⟩, fun a u m => R.grd a u (List.mem_cons_of_mem _ m), R.prm, R.exn⟩
theorem FrO.unguard {D : Addr} {o : HO} {ws : List V} {xs : List PyData} (hG : ∀ u, (D, u) ∉ Z.G) (hD : Z.H0 D = none) (R : Rl K (Z.gd D o) Hs H σ δ) (h : DpAll K Hs ws xs) : FrO K Z Hs (upd H D (.lst ws)) σ δ (.ref D) xs := by
  obtain ⟨g1, g2, g3⟩ := R.grd D o (List.mem_cons_self ..)
  refine ⟨[D], .ow upd_same h, fun a m => by rw [List.mem_singleton.mp m]; exact g2, fun a m => by rw [List.mem_singleton.mp m]; exact ⟨hD, g3⟩, fun f F j a m m' => ?_, fun a u m => by rw [List.mem_singleton.mp m]; exact hG u⟩
  obtain ⟨f0, F0⟩ := R.fps
  have nD : ∀ a ∈ f0 j, a ≠ D := fun a m q => F0.g j a o m (by rw [q]; exact List.mem_cons_self ..)
  rw [F0.eqj F j rfl (fun _ z => z) fun b mb => by rw [upd_ne (nD b mb)]] at m'
  exact nD a m' (List.mem_singleton.mp m)
theorem FrA.ungd {D : Addr} {o : HO} {v : V} {s : Sl} {A : List Addr} (R : Rl K (Z.gd D o) Hs H σ δ) (c : FrA K (Z.gd D o) Hs H σ δ v s A) : FrA K Z Hs H σ δ v s A ∧ D ∉ A := by
  refine ⟨⟨c.at_, c.hs, c.mine, fun f F j a m m' => ?_, fun a u m z => c.g a u m (List.mem_cons_of_mem _ z)⟩, fun m => c.g D o m (List.mem_cons_self ..)⟩
  obtain ⟨f0, F0⟩ := R.fps
  rw [F.same F0.ungd j] at m'
  exact c.dis f0 F0 j a m m'
theorem upd_id {D : Addr} {o : HO} (h : H D = some o) : upd H D o = H := by
  funext b
  by_cases hb : b = D
  · subst hb
    rw [upd_same, h]
  · rw [upd_ne hb]
end
section
variable {X : Cx} {Z : Ent} {pos : Pos} {tg : Expr}
structure Dts (X : Cx) (Z : Ent) (ifs : List Expr) (t : DT) : Prop where
  run : PTs X ifs (lT X.K Z t)
  mono : ∀ (δ : DSt) (Q Q' : Bool → DSt → Prop), (∀ d δ', Q d δ' → Q' d δ') → t δ Q → t δ Q'
def dYes : DT := fun δ Q => Q true δ
theorem dts_nil : Dts X Z [] dYes := ⟨⟨fun pins s σ H Q I ⟨Hs, δ, R, q⟩ => pts_nil.run pins s σ H Q I (q Hs H (Same.refl _) R)⟩, fun δ Q Q' hq q => hq _ _ q⟩
theorem dts_one {c : Expr} {t : DT} (h : Dt X Z c t) : Dts X Z [c] t := ⟨⟨fun pins s σ H Q I q => (pts_one h.run).run pins s σ H Q I q⟩, h.mono⟩
def dLcL (g : DG) (tt : DT) (te : DE) (vs : List Nat) (Q : List PyData → DSt → Prop) : List PyData → List PyData → DSt → Prop
  | [], acc, δ => Q acc δ
  | d :: r, acc, δ => g d δ fun δ2 => tt δ2 fun b δ3 => match b with
    | true => te δ3 fun y δ4 => acc.length < sizeLine ∧ dLcL g tt te vs Q r (acc ++ [y]) (dwipe δ4 vs)
    | false => dLcL g tt te vs Q r acc (dwipe δ3 vs)
def dLc (ti : DL') (g : DG) (tt : DT) (te : DE) (vs : List Nat) : DL' := fun δ Q => ti δ fun items δ1 => dLcL g tt te vs Q items [] (dwipe δ1 vs)
theorem dLcL_mono {g : DG} {tt : DT} {te : DE} {vs : List Nat} {Q Q' : List PyData → DSt → Prop} (hg : ∀ (d : PyData) (δ : DSt) (Q Q' : DSt → Prop), (∀ δ', Q δ' → Q' δ') → g d δ Q → g d δ Q')
    (ht : ∀ (δ : DSt) (Q Q' : Bool → DSt → Prop), (∀ d δ', Q d δ' → Q' d δ') → tt δ Q → tt δ Q') (he : ∀ (δ : DSt) (Q Q' : PyData → DSt → Prop), (∀ d δ', Q d δ' → Q' d δ') → te δ Q → te δ Q') (hq : ∀ d δ', Q d δ' → Q' d δ') :
    ∀ (items acc : List PyData) (δ : DSt), dLcL g tt te vs Q items acc δ → dLcL g tt te vs Q' items acc δ
  | [], acc, δ, h => hq _ _ h
  | d :: r, acc, δ, h => hg _ _ _ _ (fun δ2 h => ht _ _ _ (fun b δ3 h => by
      cases b with
      | true => exact he _ _ _ (fun y δ4 h => ⟨h.1, dLcL_mono hg ht he hq r _ _ h.2⟩) h
      | false => exact dLcL_mono hg ht he hq r _ _ h) h) h
theorem lc_imp {iter : Expr} {elt : Expr} {ifs : List Expr} {ti : DL'} {g : DG} {tt : DT} {te : DE} {ts vs : List Nat} (hi : Dit X Z tg iter ti)
    (hg : ∀ (d : PyData) (δ : DSt) (Q Q' : DSt → Prop), (∀ δ', Q δ' → Q' δ') → g d δ Q → g d δ Q') (ht : ∀ (δ : DSt) (Q Q' : Bool → DSt → Prop), (∀ d δ', Q d δ' → Q' d δ') → tt δ Q → tt δ Q') (he : ∀ (δ : DSt) (Q Q' : PyData → DSt → Prop), (∀ d δ', Q d δ' → Q' d δ') → te δ Q → te δ Q') (hts : ∀ t ∈ ts, t ∈ vs)
    (G : TG) (T : TT) (E : TE) (hG : ∀ Z' v σ H Q, lG X.K Z' ts g v σ H Q → G v σ H Q) (hT : ∀ Z' σ H Q, lT X.K Z' tt σ H Q → T σ H Q) (hE : ∀ Z' σ H Q, lE X.K Z' te σ H Q → E σ H Q)
    (σ : St) (H : Hp) (Q : VK) (h : lO X.K Z (dLc ti g tt te vs) σ H Q) : tLc (lI X.K Z ti) G T E vs σ H Q := by
  obtain ⟨Hs, δ, R, q⟩ := h
  refine ⟨Hs, δ, R, hi.mono _ _ _ (fun items δ1 q J Hs1 H1 s1 R1 w D nD => ?_) q⟩
  refine ⟨fun i m H' => m = items.length - i ∧ i ≤ items.length ∧ ∃ Hs2 δ2 acc, Same Hs1 Hs2 ∧ Rl X.K Z Hs2 H' σ δ2 ∧ (∀ j ∈ vs, ∀ x : Sl, δ2[j]? ≠ some (some x)) ∧ FrO X.K Z Hs2 H' σ δ2 (.ref D) acc ∧
      dLcL g tt te vs (fun xs δ' => ∀ v Hs' H', Same Hs Hs' → Rl X.K Z Hs' H' σ δ' → FrO X.K Z Hs' H' σ δ' v xs → Q v H') (items.drop i) acc δ2, ?_, ?_⟩
  · have R1' := R1.reslot (σ' := σ) (vs := vs) rfl fun _ _ => rfl
    exact ⟨items.length, by simp, Nat.zero_le _, Hs1, dwipe δ1 vs, [], Same.refl _, R1'.allocO nD, fun j hj x e => (dwipe_some e).2 hj, FrO.new R1' nD .nil, q⟩
  · rintro i m H' ⟨rfl, hi', Hs2, δ2, acc, s2, R2, hv, hD, q2⟩
    have ew : dwipe δ2 vs = δ2 := by
      have aux : ∀ us : List Nat, (∀ j ∈ us, ∀ x : Sl, δ2[j]? ≠ some (some x)) → dwipe δ2 us = δ2 := by
        intro us
        induction us with
        | nil => intro _; rfl
        | cons v us ih =>
          intro hu
          show (dwipe δ2 us).set v none = δ2
          rw [ih fun j hj => hu j (List.mem_cons_of_mem _ hj)]
          apply List.ext_getElem?
          intro k
          rw [List.getElem?_set]
          by_cases e : v = k
          · subst e
            rw [if_pos rfl]
            split
            · rename_i hk
              cases q : δ2[v]? with
              | none => rw [List.getElem?_eq_none_iff] at q; omega
              | some o =>
                cases o with
                | none => rfl
                | some x => exact absurd q (hu v (List.mem_cons_self ..) x)
            · rename_i hk
              rw [List.getElem?_eq_none (by omega)]
          · rw [if_neg e]
      exact aux vs hv
    have Rw : Rl X.K Z Hs2 H' (wipe σ vs) δ2 := by
      have := R2.reslot (σ' := wipe σ vs) (vs := vs) (wipe_length σ vs) (fun j nj => wipe_out nj)
      rw [ew] at this
      exact this
    have Dw : FrO X.K Z Hs2 H' (wipe σ vs) δ2 (.ref D) acc := by
      have := FrO.reslot (σ' := wipe σ vs) (vs := vs) R2 hD (fun j nj => wipe_out nj)
      rw [ew] at this
      exact this
    obtain ⟨D', ws, eD, hDl, hDs, hda, h0D, hDn, Rg⟩ := Dw.guard Rw
    cases eD
    obtain ⟨w1, _, w3⟩ := w _ Hs2 H' (wipe σ vs) δ2 s2 Rg
    by_cases hlt : i < items.length
    · refine .inr ⟨w1 i hlt, _, fun H3 z => ⟨items.length - (i + 1), by omega, rfl, hlt, z⟩, fun x H3 y => ?_⟩
      obtain ⟨d, Hs3, e, s3, R3, dp⟩ := w3 i x H3 hlt y
      have ed : items.drop i = d :: items.drop (i + 1) := by
        obtain ⟨h1, h2⟩ := List.getElem?_eq_some_iff.mp e
        rw [← h2]
        exact List.drop_eq_getElem_cons h1
      rw [ed] at q2
      refine hG _ _ _ _ _ ⟨Hs3, δ2, d, R3, dp, hg _ _ _ _ (fun δ4 q4 σ4 R4 a4 => ?_) q2⟩
      have ag : ∀ j, j ∉ vs → σ4[j]? = (wipe σ vs)[j]? := fun j nj => a4.2 j fun z => nj (hts j z)
      have ag2 : ∀ j, j ∉ vs → σ[j]? = σ4[j]? := fun j nj => by rw [ag j nj, wipe_out nj]
      have la : σ.length = σ4.length := by rw [a4.1, wipe_length]
      have back : ∀ {Hs5 H5 : Hp} {δ5 : DSt} {ws' : List V} {acc' : List PyData}, Same Hs3 Hs5 → Rl X.K (Z.gd D (.lst ws)) Hs5 H5 σ4 δ5 → DpAll X.K Hs5 ws' acc' →
          dLcL g tt te vs (fun xs δ' => ∀ v Hs' H', Same Hs Hs' → Rl X.K Z Hs' H' σ δ' → FrO X.K Z Hs' H' σ δ' v xs → Q v H') (items.drop (i + 1)) acc' (dwipe δ5 vs) →
          ∃ Hs2 δ2 acc, Same Hs1 Hs2 ∧ Rl X.K Z Hs2 (upd H5 D (.lst ws')) σ δ2 ∧ (∀ j ∈ vs, ∀ x : Sl, δ2[j]? ≠ some (some x)) ∧ FrO X.K Z Hs2 (upd H5 D (.lst ws')) σ δ2 (.ref D) acc ∧
            dLcL g tt te vs (fun xs δ' => ∀ v Hs' H', Same Hs Hs' → Rl X.K Z Hs' H' σ δ' → FrO X.K Z Hs' H' σ δ' v xs → Q v H') (items.drop (i + 1)) acc δ2 := fun {Hs5 H5 δ5 ws' acc'} s5 R5 dp5 q5 =>
        have Ru := Rl.unguard (o' := .lst ws') hDn h0D R5
        ⟨Hs5, dwipe δ5 vs, acc', (s2.trans s3).trans s5, Ru.reslot la ag2, fun j hj x e => (dwipe_some e).2 hj, FrO.reslot Ru (FrO.unguard hDn h0D R5 dp5) ag2, q5⟩
      refine ⟨?_, hT _ _ _ _ ⟨Hs3, δ4, R4, ht _ _ _ (fun b δ5 q5 Hs5 H5 s5 R5 => ?_) q4⟩⟩
      · rw [wipe_eq (σ := wipe σ vs) (σ' := σ4) a4.1 ag]
        exact wipe_eq (wipe_length σ vs) fun j nj => wipe_out nj
      · cases b with
        | true =>
          rw [if_pos rfl]
          refine hE _ _ _ _ ⟨Hs5, δ5, R5, he _ _ _ (fun z δ6 q6 v6 Hs6 H6 s6 R6 dp6 => ?_) q5⟩
          obtain ⟨g1, g2, g3⟩ := R6.grd D _ (List.mem_cons_self ..)
          refine ⟨ws, g1, by rw [hda.len]; exact q6.1, ?_⟩
          exact back (s5.trans s6) R6 ((((hda.up s3).up s5).up s6).app (.cons dp6 .nil)) q6.2
        | false =>
          rw [if_neg Bool.false_ne_true]
          obtain ⟨g1, g2, g3⟩ := R5.grd D _ (List.mem_cons_self ..)
          have z := back s5 R5 ((hda.up s3).up s5) q5
          rw [upd_id g1] at z
          exact z
    · have e : i = items.length := by omega
      subst e
      rw [List.drop_length] at q2
      exact .inl ⟨(w Z Hs2 H' σ δ2 s2 R2).2.1, q2 (.ref D) Hs2 H' (s1.trans s2) R2 hD⟩
theorem do_lc {elt iter : Expr} {ifs : List Expr} {scope : Scope} (own : List (Str × Nat)) {ts : List Nat} {ti : DL'} {g : DG} {tt : DT} {te : DE} (hc : X.calm = true) (hN : X.N.Nodup) (hi : Dit X Z tg iter ti) (ok : BlkOk X.N X.env.scope scope own)
    (hg : ∀ (Z' : Ent) (s : Shared) (H : Hp) (C : Addr) (cl : List (Str × Addr)) (fp : List Addr), Dg (X.blk s H scope (compEnvC scope cl C X.env) fp) Z' tg ts g) (ht : ∀ (Z' : Ent) (s : Shared) (H : Hp) (C : Addr) (cl : List (Str × Addr)) (fp : List Addr), Dts (X.blk s H scope (compEnvC scope cl C X.env) fp) Z' ifs tt)
    (he : ∀ (Z' : Ent) (s : Shared) (H : Hp) (C : Addr) (cl : List (Str × Addr)) (fp : List Addr), De (X.blk s H scope (compEnvC scope cl C X.env) fp) Z' elt te) (hts : ∀ t ∈ ts, t ∈ own.map (·.2) := by decide) (hs : ∀ x, foldedSetIterable iter X.env x = pure x := by intro _; rfl) :
    Do X Z (.ListComp elt [⟨tg, iter, ifs, 0⟩] scope pos) (dLc ti g tt te (own.map (·.2))) := by
  refine ⟨pe_imp (pe_lc (own := own) (g := fun v σ H Q => ∃ Z', lG X.K Z' ts g v σ H Q) (tt := fun σ H Q => ∃ Z', lT X.K Z' tt σ H Q) (te := fun σ H Q => ∃ Z', lE X.K Z' te σ H Q) hc hN hi.run ok
      (fun s H C cl fp => ⟨fun pins s' σ H' v u Q I r ⟨Z', h⟩ => (hg Z' s H C cl fp).run.run pins s' σ H' v u Q I r h⟩) (fun s H C cl fp => ⟨fun pins s' σ H' Q I ⟨Z', h⟩ => (ht Z' s H C cl fp).run.run pins s' σ H' Q I h⟩)
      (fun s H C cl fp => ⟨fun pins s' σ H' Q I ⟨Z', h⟩ => (he Z' s H C cl fp).run.run pins s' σ H' Q I h⟩) hs) fun σ H Q h => ?_, fun δ Q Q' hq q => ?_⟩
  · have z : Shared × Hp × Addr := ⟨X.s_0, X.H_0, 0⟩
    exact lc_imp (elt := elt) (ifs := ifs) hi (hg Z z.1 z.2.1 0 [] []).mono (ht Z z.1 z.2.1 0 [] []).mono (he Z z.1 z.2.1 0 [] []).mono hts _ _ _ (fun Z' _ _ _ _ h => ⟨Z', h⟩) (fun Z' _ _ _ h => ⟨Z', h⟩) (fun Z' _ _ _ h => ⟨Z', h⟩) σ H Q h
  · exact hi.mono _ _ _ (fun items δ1 q => dLcL_mono (hg Z X.s_0 X.H_0 0 [] []).mono (ht Z X.s_0 X.H_0 0 [] []).mono (he Z X.s_0 X.H_0 0 [] []).mono hq _ _ _ q) q
/-- y = [..] -/
theorem ds_setLcP {i : Nat} {y : Str} {py spos : Pos} {elt iter : Expr} {ifs : List Expr} {scope : Scope} {own : List (Str × Nat)} {ts : List Nat} {ti : DL'} {g : DG} {tt : DT} {te : DE} (hc : X.calm = true) (hN : X.N.Nodup) (hy : X.N[i]? = some y) (hyl : X.env.scope.names.lookup y = some .local)
    (hsw : swapsWith (.ListComp elt [⟨tg, iter, ifs, 0⟩] scope pos) (some (.Name y py)) spos.line X.env = pure true) (hi : Dit X Z tg iter ti) (ok : BlkOk X.N X.env.scope scope own)
    (hg : ∀ (Z' : Ent) (s : Shared) (H : Hp) (C : Addr) (cl : List (Str × Addr)) (fp : List Addr), Dg (X.blk s H scope (compEnvC scope cl C X.env) fp) Z' tg ts g) (ht : ∀ (Z' : Ent) (s : Shared) (H : Hp) (C : Addr) (cl : List (Str × Addr)) (fp : List Addr), Dts (X.blk s H scope (compEnvC scope cl C X.env) fp) Z' ifs tt)
    (he : ∀ (Z' : Ent) (s : Shared) (H : Hp) (C : Addr) (cl : List (Str × Addr)) (fp : List Addr), De (X.blk s H scope (compEnvC scope cl C X.env) fp) Z' elt te) (hts : ∀ t ∈ ts, t ∈ own.map (·.2)) (hs : ∀ x, foldedSetIterable iter X.env x = pure x) :
    PS X (.Assign [.Name y py] (.ListComp elt [⟨tg, iter, ifs, 0⟩] scope pos) spos) (fun D σ H => lO X.K Z (dLc ti g tt te (own.map (·.2))) σ H fun v H' => D.nx (σ.set i (some v)) H') := by
  refine ps_imp (ps_setLc (own := own) (i := i) (g := fun v σ H Q => ∃ Z', lG X.K Z' ts g v σ H Q) (tt := fun σ H Q => ∃ Z', lT X.K Z' tt σ H Q) (te := fun σ H Q => ∃ Z', lE X.K Z' te σ H Q) hc hN hy hyl hsw hi.run ok
      (fun s H C cl fp => ⟨fun pins s' σ H' v u Q I r ⟨Z', h⟩ => (hg Z' s H C cl fp).run.run pins s' σ H' v u Q I r h⟩) (fun s H C cl fp => ⟨fun pins s' σ H' Q I ⟨Z', h⟩ => (ht Z' s H C cl fp).run.run pins s' σ H' Q I h⟩)
      (fun s H C cl fp => ⟨fun pins s' σ H' Q I ⟨Z', h⟩ => (he Z' s H C cl fp).run.run pins s' σ H' Q I h⟩) hs) fun D σ H h => ?_
  exact lc_imp (elt := elt) (ifs := ifs) hi (hg Z X.s_0 X.H_0 0 [] []).mono (ht Z X.s_0 X.H_0 0 [] []).mono (he Z X.s_0 X.H_0 0 [] []).mono hts _ _ _ (fun Z' _ _ _ _ h => ⟨Z', h⟩) (fun Z' _ _ _ h => ⟨Z', h⟩) (fun Z' _ _ _ h => ⟨Z', h⟩) σ H _ h
theorem dLc_mono {iter elt : Expr} {ifs : List Expr} {scope : Scope} {ts vs : List Nat} {ti : DL'} {g : DG} {tt : DT} {te : DE} (hi : Dit X Z tg iter ti)
    (hg : ∀ (Z' : Ent) (s : Shared) (H : Hp) (C : Addr) (cl : List (Str × Addr)) (fp : List Addr), Dg (X.blk s H scope (compEnvC scope cl C X.env) fp) Z' tg ts g) (ht : ∀ (Z' : Ent) (s : Shared) (H : Hp) (C : Addr) (cl : List (Str × Addr)) (fp : List Addr), Dts (X.blk s H scope (compEnvC scope cl C X.env) fp) Z' ifs tt)
    (he : ∀ (Z' : Ent) (s : Shared) (H : Hp) (C : Addr) (cl : List (Str × Addr)) (fp : List Addr), De (X.blk s H scope (compEnvC scope cl C X.env) fp) Z' elt te) {δ : DSt} {Q Q' : List PyData → DSt → Prop} (hq : ∀ d δ', Q d δ' → Q' d δ') (q : dLc ti g tt te vs δ Q) : dLc ti g tt te vs δ Q' :=
  hi.mono _ _ _ (fun items δ1 q => dLcL_mono (hg Z X.s_0 X.H_0 0 [] []).mono (ht Z X.s_0 X.H_0 0 [] []).mono (he Z X.s_0 X.H_0 0 [] []).mono hq _ _ _ q) q
/-- y = [..], y a list of one's own | y shared -/
theorem ds_setLcO {i : Nat} {y : Str} {py spos : Pos} {elt iter : Expr} {ifs : List Expr} {scope : Scope} (own : List (Str × Nat)) {ts : List Nat} {ti : DL'} {g : DG} {tt : DT} {te : DE} (hc : X.calm = true) (hN : X.N.Nodup) (hy : X.N[i]? = some y) (hyl : X.env.scope.names.lookup y = some .local)
    (hsw : swapsWith (.ListComp elt [⟨tg, iter, ifs, 0⟩] scope pos) (some (.Name y py)) spos.line X.env = pure true) (hi : Dit X Z tg iter ti) (ok : BlkOk X.N X.env.scope scope own)
    (hg : ∀ (Z' : Ent) (s : Shared) (H : Hp) (C : Addr) (cl : List (Str × Addr)) (fp : List Addr), Dg (X.blk s H scope (compEnvC scope cl C X.env) fp) Z' tg ts g) (ht : ∀ (Z' : Ent) (s : Shared) (H : Hp) (C : Addr) (cl : List (Str × Addr)) (fp : List Addr), Dts (X.blk s H scope (compEnvC scope cl C X.env) fp) Z' ifs tt)
    (he : ∀ (Z' : Ent) (s : Shared) (H : Hp) (C : Addr) (cl : List (Str × Addr)) (fp : List Addr), De (X.blk s H scope (compEnvC scope cl C X.env) fp) Z' elt te) (hts : ∀ t ∈ ts, t ∈ own.map (·.2) := by decide) (hs : ∀ x, foldedSetIterable iter X.env x = pure x := by intro _; rfl) :
    Ds X Z (.Assign [.Name y py] (.ListComp elt [⟨tg, iter, ifs, 0⟩] scope pos) spos) (dSetO i (dLc ti g tt te (own.map (·.2)))) :=
  ⟨ps_imp (ds_setLcP hc hN hy hyl hsw hi ok hg ht he hts hs) fun D σ H ⟨Hs, δ, N, R, okk, q⟩ => ⟨Hs, δ, R, dLc_mono hi hg ht he (fun xs δ' q v Hs' H' s R' f => okk.nx _ _ Hs' H' s (R'.setO f) q) q⟩⟩
theorem ds_setLc {i : Nat} {y : Str} {py spos : Pos} {elt iter : Expr} {ifs : List Expr} {scope : Scope} (own : List (Str × Nat)) {ts : List Nat} {ti : DL'} {g : DG} {tt : DT} {te : DE} (hc : X.calm = true) (hN : X.N.Nodup) (hy : X.N[i]? = some y) (hyl : X.env.scope.names.lookup y = some .local)
    (hsw : swapsWith (.ListComp elt [⟨tg, iter, ifs, 0⟩] scope pos) (some (.Name y py)) spos.line X.env = pure true) (hi : Dit X Z tg iter ti) (ok : BlkOk X.N X.env.scope scope own)
    (hg : ∀ (Z' : Ent) (s : Shared) (H : Hp) (C : Addr) (cl : List (Str × Addr)) (fp : List Addr), Dg (X.blk s H scope (compEnvC scope cl C X.env) fp) Z' tg ts g) (ht : ∀ (Z' : Ent) (s : Shared) (H : Hp) (C : Addr) (cl : List (Str × Addr)) (fp : List Addr), Dts (X.blk s H scope (compEnvC scope cl C X.env) fp) Z' ifs tt)
    (he : ∀ (Z' : Ent) (s : Shared) (H : Hp) (C : Addr) (cl : List (Str × Addr)) (fp : List Addr), De (X.blk s H scope (compEnvC scope cl C X.env) fp) Z' elt te) (hts : ∀ t ∈ ts, t ∈ own.map (·.2) := by decide) (hs : ∀ x, foldedSetIterable iter X.env x = pure x := by intro _; rfl) :
    Ds X Z (.Assign [.Name y py] (.ListComp elt [⟨tg, iter, ifs, 0⟩] scope pos) spos) (dSet i (dShare (dLc ti g tt te (own.map (·.2))))) :=
  ⟨ps_imp (ds_setLcP hc hN hy hyl hsw hi ok hg ht he hts hs) fun D σ H ⟨Hs, δ, N, R, okk, q⟩ => ⟨Hs, δ, R, dLc_mono hi hg ht he (fun xs δ' q v Hs' H' s R' f => by
    obtain ⟨Hs2, s2, R2, dp⟩ := f.share R'
    exact okk.nx _ _ Hs2 H' (s.trans s2) (R2.set dp) q) q⟩⟩
end
/-! ### a def keeps its promise -/
def startD (N : List Str) (ds : List PyData) : DSt := ds.map (fun d => some (.sh d)) ++ List.replicate (N.length - ds.length) none
def startB (N : List Str) (xs : List PyData) (ds : List PyData) : DSt := some (.ow true xs) :: (ds.map (fun d => some (.sh d)) ++ List.replicate (N.length - (ds.length + 1)) none)
def endsP (Q : Res → Prop) : DEnds := ⟨fun _ => Q (.d .none), fun d _ => Q (.d d), fun xs _ => Q (.o xs), fun _ => False, fun _ => False⟩
/-- the caller's list as it stands in slot 0 -/
def atB (δ : DSt) (Q : List PyData → Prop) : Prop := match δ with
  | some (Sl.ow true xs) :: _ => Q xs
  | _ => False
def endsB (Q : Res → List PyData → Prop) : DEnds := ⟨fun δ => atB δ (Q (.d .none)), fun d δ => atB δ (Q (.d d)), fun xs δ => atB δ (Q (.o xs)), fun _ => False, fun _ => False⟩
section
variable {P : Program} {w : World} {K : Fg} {mg : Str → Option Value} {base : Heap} {x qual : Str} {params : Arguments} {body : List Stmt} {scope : Scope} {dvs : List V} {kws : List (Str × V)} {f : Addr} {fd : FuncData} {N ps : List Str} {k : Nat}
/-- only the frame is left -/
theorem Rl.nil {Z : Ent} {Hs H : Hp} {σ : St} {δ : DSt} (R : Rl K Z Hs H σ δ) : Rl K Z Hs H [] [] :=
  ⟨rfl, R.sub, R.ext, R.fr, R.new, R.hid, fun i d e => (nomatch e), ⟨fun _ => [], ⟨fun i s e => (nomatch e), fun _ _ => rfl, fun i a m => (nomatch m), fun i a m => (nomatch m), fun i s a e => (nomatch e), fun i j a n m => (nomatch m), fun i a o m => nomatch m⟩⟩, R.grd, fun i s e => (nomatch e), fun i C e => nomatch e⟩
theorem FrA.nil {Z : Ent} {Hs H : Hp} {σ : St} {δ : DSt} {v : V} {s : Sl} {A : List Addr} (c : FrA K Z Hs H σ δ v s A) : FrA K Z Hs H [] [] v s A :=
  ⟨c.at_, c.hs, c.mine, fun f F j a m m' => by rw [F.emp j (fun s e => (nomatch e))] at m'; exact (nomatch m'), c.g⟩
theorem FrO.nil {Z : Ent} {Hs H : Hp} {σ : St} {δ : DSt} {v : V} {xs : List PyData} (f : FrO K Z Hs H σ δ v xs) : FrO K Z Hs H [] [] v xs := f.elim fun A c => ⟨A, c.nil⟩
theorem start_get {N : List Str} {vs : List V} {i : Nat} {v : V} (h : vs[i]? = some v) : (start N vs)[i]? = some (some v) := by
  unfold L2.start
  rw [List.getElem?_append_left (by rw [List.length_map]; exact get_lt h), List.getElem?_map, h]
  rfl
theorem startD_get {ds : List PyData} {n i : Nat} {s : Sl} (h : (ds.map (fun d => some (Sl.sh d)) ++ List.replicate n none)[i]? = some (some s)) : ∃ d, ds[i]? = some d ∧ s = .sh d := by
  by_cases hi : i < ds.length
  · rw [List.getElem?_append_left (by rw [List.length_map]; exact hi), List.getElem?_map, List.getElem?_eq_getElem hi] at h
    cases h
    exact ⟨_, List.getElem?_eq_getElem hi, rfl⟩
  · rw [List.getElem?_append_right (by rw [List.length_map]; omega), List.getElem?_replicate] at h
    split at h <;> cases h
theorem rl_startP {Hs H : Hp} {vs : List V} {ds : List PyData} {σ0 : St} {xa : Option (Addr × Str)} {ex : Xd → DSt → Prop} (sub : Same Hs H) (d : DpAll K Hs vs ds) : Rl K ⟨H, Hs, [], [], σ0, xa, ex⟩ Hs H (start N vs) (startD N ds) := by
  have l := d.len
  have no : ∀ (i : Nat) (s : Sl), (startD N ds)[i]? = some (some s) → s.own = false ∧ s.prm = false := fun i s z => by
    obtain ⟨d', e1, e2⟩ := startD_get z
    subst e2
    exact ⟨rfl, rfl⟩
  refine ⟨?_, sub, Same.refl _, fun b o e _ => e, fun b n => .inl n, fun b e => (nomatch e), fun i e z => ?_, ⟨fun _ => [], ⟨fun i s z o => ?_, fun _ _ => rfl, fun i a m => (nomatch m), fun i a m => (nomatch m), fun i s a _ _ m => (nomatch m), fun i j a n m => (nomatch m), fun i a o m => nomatch m⟩⟩, fun a o m => (nomatch m), fun i s z p => ?_, fun i C z => ?_⟩
  · unfold L2.start startD
    rw [List.length_append, List.length_append, List.length_map, List.length_map, List.length_replicate, List.length_replicate, l]
  · obtain ⟨d', e1, e2⟩ := startD_get z
    cases e2
    obtain ⟨v, h1, h2⟩ := d.get e1
    exact ⟨v, start_get h1, h2⟩
  · rw [(no i s z).1] at o
    cases o
  · rw [(no i s z).2] at p
    cases p
  · obtain ⟨d', e1, e2⟩ := startD_get z
    cases e2
/-- an owned thing handed in first -/
theorem rl_startA {Hs H : Hp} {v : V} {s : Sl} {A : List Addr} {us : List V} {ds : List PyData} {σ0 : St} {xa : Option (Addr × Str)} {ex : Xd → DSt → Prop} (sub : Same Hs H) (h : At K Hs H v s A) (hs : ∀ a ∈ A, Hs a = none) (hp : s.prm = true) (h0 : σ0[0]? = some (some v)) (d : DpAll K Hs us ds) :
    Rl K ⟨H, Hs, A, [], σ0, xa, ex⟩ Hs H (start N (v :: us)) (some s :: (ds.map (fun d => some (.sh d)) ++ List.replicate (N.length - (ds.length + 1)) none)) := by
  have l := d.len
  have e0 : start N (v :: us) = some v :: (us.map some ++ List.replicate (N.length - (us.length + 1)) none) := rfl
  have no : ∀ (i : Nat) (t : Sl), (some s :: (ds.map (fun d => some (Sl.sh d)) ++ List.replicate (N.length - (ds.length + 1)) none))[i]? = some (some t) → i = 0 ∧ t = s ∨ i ≠ 0 ∧ t.own = false ∧ t.prm = false := fun i t z => by
    cases i with
    | zero => cases z; exact .inl ⟨rfl, rfl⟩
    | succ i =>
      obtain ⟨d', e1, e2⟩ := startD_get (show (ds.map (fun d => some (Sl.sh d)) ++ List.replicate (N.length - (ds.length + 1)) none)[i]? = some (some t) from z)
      subst e2
      exact .inr ⟨by omega, rfl, rfl⟩
  refine ⟨?_, sub, Same.refl _, fun b o e _ => e, fun b n => .inl n, fun c e => ⟨hs c e, h.live c e⟩, fun i e z => ?_, ⟨fun i => if i = 0 then A else [], ⟨fun i t z o => ?_, fun i z => ?_, fun i a m => ?_, fun i a m => ?_, fun i t a z p m => ?_, fun i j a n m m' => ?_, fun i a o m => nofun⟩⟩, fun a o m => (nomatch m), fun i t z p => ?_, fun i C z => ?_⟩
  · rw [e0, List.length_cons, List.length_cons, List.length_append, List.length_append, List.length_map, List.length_map, List.length_replicate, List.length_replicate, l]
  · cases i with
    | zero => cases z; cases hp
    | succ i =>
      obtain ⟨d', e1, e2⟩ := startD_get (show (ds.map (fun d => some (Sl.sh d)) ++ List.replicate (N.length - (ds.length + 1)) none)[i]? = some (some (Sl.sh e)) from z)
      cases e2
      obtain ⟨v', h1, h2⟩ := d.get e1
      exact ⟨v', start_get (show (v :: us)[i + 1]? = some v' from h1), h2⟩
  · rcases no i t z with ⟨rfl, rfl⟩ | ⟨_, e, _⟩
    · exact ⟨v, by rw [e0]; rfl, h⟩
    · rw [e] at o
      cases o
  · cases i with
    | zero =>
      have := z s rfl
      rw [h.owned] at this
      cases this
    | succ i => rfl
  · split at m
    · exact hs a m
    · exact nomatch m
  · split at m
    · exact .inr m
    · exact nomatch m
  · rcases no i t z with ⟨rfl, rfl⟩ | ⟨ne, e, _⟩
    · rw [hp] at p
      cases p
    · rw [if_neg ne] at m
      exact nomatch m
  · split at m
    · rename_i e1
      split at m'
      · rename_i e2
        exact n (e1.trans e2.symm)
      · exact nomatch m'
    · exact nomatch m
  · rcases no i t z with ⟨rfl, rfl⟩ | ⟨_, _, e⟩
    · rw [e0, h0]
      rfl
    · rw [e] at p
      cases p
  · cases i with
    | zero => cases z; cases hp
    | succ i =>
      obtain ⟨d', e1, e2⟩ := startD_get (show (ds.map (fun d => some (Sl.sh d)) ++ List.replicate (N.length - (ds.length + 1)) none)[i]? = some (some (Sl.xn C)) from z)
      cases e2
theorem ok_pure {fn : FP} (F : FunD K x qual params body scope dvs kws f fd) (S : FnScope N ps scope) (fm : FMono fn) (len : ∀ ds Q, fn ds Q → ds.length = ps.length)
    (hb : ∀ (cdv : Value) (A : Around) (outer : List Env) (s : Shared) (H : Hp) (E : XK) (Z : Ent), Room k (A.deeper (PyProof.Rows.envOfC qual scope s.heap.objs.size f cdv)) →
      ∃ t, Dss (cxOf CX0 P w K mg base N qual scope f cdv A outer s H E).nox Z body t ∧ ∀ ds Q, fn ds Q → t (endsP Q) (startD N ds)) : FnOk P w K mg base CX0 (k + 1) f fd ps (spP K fn) := by
  refine F.ok S (fun vs H Q E h => ?_) (fun cdv A outer s H vs Q E hr h => ?_)
  · obtain ⟨Hs, ds, _, d, q⟩ := h
    rw [d.len]
    exact len _ _ q
  · obtain ⟨Hs, ds, sub, d, q⟩ := h
    obtain ⟨t, ht, hq⟩ := hb cdv A outer s H E (.at H Hs [] []) hr
    refine ⟨_, PSs.nox ht.run, Hs, startD N ds, endsP _, rl_startP sub d, ⟨fun σ δ Hs' H' _ R z => ?_, fun σ δ Hs' H' v e _ R dp z => ?_, fun σ δ Hs' H' v xs _ R fr z => ?_, fun _ _ _ _ _ _ z => z.elim, fun _ _ _ _ _ _ z => z.elim⟩, hq ds _ q⟩
    · exact z .non Hs' H' R.nil .non
    · exact z v Hs' H' R.nil dp
    · exact z v Hs' H' R.nil fr.nil
theorem atB_of {δ : DSt} {Q : List PyData → Prop} (h : atB δ Q) : ∃ xs, δ[0]? = some (some (Sl.ow true xs)) ∧ Q xs := by
  unfold atB at h
  split at h
  · exact ⟨_, rfl, h⟩
  · exact h.elim
/-- only slot 0, the caller's, is left -/
theorem Rl.head {Z : Ent} {Hs H : Hp} {σ : St} {δ : DSt} {s : Sl} {v : V} (R : Rl K Z Hs H σ δ) (h0 : Z.σ0[0]? = some (some v)) (h : δ[0]? = some (some s)) (ho : s.own = true) (hp : s.prm = true) : Rl K Z Hs H [some v] [some s] ∧ σ[0]? = some (some v) := by
  have hv : σ[0]? = some (some v) := (R.prm 0 s h hp).trans h0
  have no : ∀ (i : Nat) (t : Sl), ([some s] : DSt)[i]? = some (some t) → i = 0 ∧ t = s := fun i t z => by
    cases i with
    | zero => cases z; exact ⟨rfl, rfl⟩
    | succ i => simp at z
  refine ⟨⟨rfl, R.sub, R.ext, R.fr, R.new, R.hid, fun i d e => ?_, ?_, R.grd, fun i t e p => ?_, fun i C e => ?_⟩, hv⟩
  · obtain ⟨rfl, e2⟩ := no i _ e
    rw [← e2] at hp
    cases hp
  · obtain ⟨f, F⟩ := R.fps
    obtain ⟨v', k1, k2⟩ := F.at_ 0 s h ho
    rw [hv] at k1
    cases k1
    have m1 : ∀ {i : Nat} {a : Addr}, a ∈ (if i = 0 then f 0 else []) → i = 0 ∧ a ∈ f 0 := fun {i a} m => by
      split at m
      · rename_i e
        exact ⟨e, m⟩
      · exact nomatch m
    refine ⟨fun i => if i = 0 then f 0 else [], ⟨fun i t e o => ?_, fun i e => ?_, fun i a m => F.hs 0 a (m1 m).2, fun i a m => F.old 0 a (m1 m).2, fun i t a e p m => ?_, fun i j a n m m' => n ((m1 m).1.trans (m1 m').1.symm), fun i a o m => F.g 0 a o (m1 m).2⟩⟩
    · obtain ⟨rfl, rfl⟩ := no i t e
      exact ⟨v, rfl, k2⟩
    · cases i with
      | zero =>
        have := e s rfl
        rw [ho] at this
        cases this
      | succ i => rfl
    · obtain ⟨rfl, rfl⟩ := no i t e
      exact F.mine 0 _ a h p (m1 m).2
  · obtain ⟨rfl, rfl⟩ := no i t e
    rw [h0]
    rfl
  · obtain ⟨rfl, e2⟩ := no i _ e
    rw [← e2] at hp
    cases hp
theorem FrA.one {Z : Ent} {Hs H : Hp} {σ : St} {δ : DSt} {s t : Sl} {v u : V} {A : List Addr} (R : Rl K Z Hs H σ δ) (hv : σ[0]? = some (some v)) (h : δ[0]? = some (some s)) (ho : s.own = true) (c : FrA K Z Hs H σ δ u t A) : FrA K Z Hs H [some v] [some s] u t A := by
  refine ⟨c.at_, c.hs, c.mine, fun f' F' j a m m' => ?_, c.g⟩
  obtain ⟨f, F⟩ := R.fps
  cases j with
  | zero =>
    rw [F.eqj F' 0 (by rw [h]; rfl) (fun w z => by rw [hv] at z; cases z; rfl) fun _ _ => rfl] at m'
    exact c.dis f F 0 a m m'
  | succ j =>
    rw [F'.emp (j + 1) fun s z => by simp at z] at m'
    exact nomatch m'
theorem ok_bag {fn : FB} (F : FunD K x qual params body scope dvs kws f fd) (S : FnScope N ps scope) (fm : BMono fn) (len : ∀ xs ds Q, fn xs ds Q → ds.length + 1 = ps.length)
    (hb : ∀ (cdv : Value) (A : Around) (outer : List Env) (s : Shared) (H : Hp) (E : XK) (Z : Ent), Room k (A.deeper (PyProof.Rows.envOfC qual scope s.heap.objs.size f cdv)) →
      ∃ t, Dss (cxOf CX0 P w K mg base N qual scope f cdv A outer s H E).nox Z body t ∧ ∀ xs ds Q, fn xs ds Q → t (endsB Q) (startB N xs ds)) : FnOk P w K mg base CX0 (k + 1) f fd ps (spB K fn) := by
  refine F.ok S (fun vs H Q E h => ?_) (fun cdv A outer s H vs Q E hr h => ?_)
  · obtain ⟨Hs, b, ws, xs, us, ds, rfl, _, _, _, _, d, q⟩ := h
    rw [List.length_cons, d.len]
    exact len _ _ _ q
  · obtain ⟨Hs, b, ws, xs, us, ds, rfl, sub, hb0, hl, d1, d, q⟩ := h
    obtain ⟨t, ht, hq⟩ := hb cdv A outer s H E (.at H Hs [b] [some (.ref b)]) hr
    refine ⟨_, PSs.nox ht.run, Hs, startB N xs ds, endsB _, rl_startA (s := .ow true xs) (A := [b]) sub (.ow hl d1) (fun a m => by rw [List.mem_singleton.mp m]; exact hb0) rfl rfl d, ⟨fun σ δ Hs' H' _ R z => ?_, fun σ δ Hs' H' v e _ R dp z => ?_, fun σ δ Hs' H' v xs _ R fr z => ?_, fun _ _ _ _ _ _ z => z.elim, fun _ _ _ _ _ _ z => z.elim⟩, hq xs ds _ q⟩
    · obtain ⟨ys, e, z⟩ := atB_of z
      exact z .non Hs' H' (R.head rfl e rfl rfl).1 .non
    · obtain ⟨ys, e, z⟩ := atB_of z
      exact z v Hs' H' (R.head rfl e rfl rfl).1 dp
    · obtain ⟨ys, e, z⟩ := atB_of z
      exact z v Hs' H' (R.head rfl e rfl rfl).1 (fr.elim fun A c => ⟨A, FrA.one R (R.head rfl e rfl rfl).2 e rfl c⟩)
end
end DL

namespace DL
open PySem PySem.Spec L2
theorem bb_abs : bootBuiltins "abs" = some (.builtin "abs") := by decide +kernel
theorem bb_max : bootBuiltins "max" = some (.builtin "max") := by decide +kernel
theorem bb_min : bootBuiltins "min" = some (.builtin "min") := by decide +kernel
theorem bb_len : bootBuiltins "len" = some (.builtin "len") := by decide +kernel
theorem bb_all : bootBuiltins "all" = some (.builtin "all") := by decide +kernel
theorem bb_any : bootBuiltins "any" = some (.builtin "any") := by decide +kernel
theorem bb_isinstance : bootBuiltins "isinstance" = some (.builtin "isinstance") := by decide +kernel
theorem bb_sum : bootBuiltins "sum" = some (.builtin "sum") := by decide +kernel
theorem bb_sorted : bootBuiltins "sorted" = some (.builtin "sorted") := by decide +kernel
theorem bt_int : bootBuiltins "int" = some (.type "int") := by decide +kernel
theorem bt_bool : bootBuiltins "bool" = some (.type "bool") := by decide +kernel
theorem bt_tuple : bootBuiltins "tuple" = some (.type "tuple") := by decide +kernel
theorem bt_list : bootBuiltins "list" = some (.type "list") := by decide +kernel
theorem bt_str : bootBuiltins "str" = some (.type "str") := by decide +kernel
theorem kf_int : kitFor "int" = true := by decide +kernel
theorem kf_bool : kitFor "bool" = true := by decide +kernel
theorem kf_tuple : kitFor "tuple" = true := by decide +kernel
theorem kf_str : kitFor "str" = true := by decide +kernel
theorem kf_list : kitFor "list" = true := by decide +kernel
end DL

namespace DL
open PySem PySem.Spec L2
/-! ### readings are monotone -/
class EMono (t : DE) : Prop where
  m : ∀ (δ : DSt) (Q Q' : PyData → DSt → Prop), (∀ d δ', Q d δ' → Q' d δ') → t δ Q → t δ Q'
class TMono (t : DT) : Prop where
  m : ∀ (δ : DSt) (Q Q' : Bool → DSt → Prop), (∀ d δ', Q d δ' → Q' d δ') → t δ Q → t δ Q'
class LMono (t : DL') : Prop where
  m : ∀ (δ : DSt) (Q Q' : List PyData → DSt → Prop), (∀ d δ', Q d δ' → Q' d δ') → t δ Q → t δ Q'
class GMono (t : DG) : Prop where
  m : ∀ (d : PyData) (δ : DSt) (Q Q' : DSt → Prop), (∀ δ', Q δ' → Q' δ') → t d δ Q → t d δ Q'
class GsMono (t : DGs) : Prop where
  m : ∀ (d : List PyData) (δ : DSt) (Q Q' : DSt → Prop), (∀ δ', Q δ' → Q' δ') → t d δ Q → t d δ Q'
class D2M (r : D2) : Prop where
  m : ∀ (d e : PyData) (Q Q' : PyData → Prop), (∀ z, Q z → Q' z) → r d e Q → r d e Q'
class D1M (r : D1) : Prop where
  m : ∀ (ds : List PyData) (Q Q' : PyData → Prop), (∀ z, Q z → Q' z) → r ds Q → r ds Q'
structure DEnds.Le (N N' : DEnds) : Prop where
  nx : ∀ δ, N.nx δ → N'.nx δ
  rt : ∀ d δ, N.rt d δ → N'.rt d δ
  ro : ∀ d δ, N.ro d δ → N'.ro d δ
  bk : ∀ δ, N.bk δ → N'.bk δ
  ct : ∀ δ, N.ct δ → N'.ct δ
theorem DEnds.Le.refl (N : DEnds) : N.Le N := ⟨fun _ h => h, fun _ _ h => h, fun _ _ h => h, fun _ h => h, fun _ h => h⟩
class SMono (t : DS) : Prop where
  m : ∀ (N N' : DEnds) (δ : DSt), N.Le N' → t N δ → t N' δ
section
variable {ta tb tc : DE} {c c' : DT} {l l' : DL'} {g : DG} {gs : DGs} {r r' : D2} {r1 : D1} {s s' : DS} {f : FP} {fb : FB}
instance {C : Int → Int → Prop} {h : Int → Int → PyData} : D2M (rII C h) := ⟨rII_mono⟩
instance : D2M rEqq := ⟨fun d e Q Q' hq q => ⟨q.1, q.2.1, hq _ q.2.2⟩⟩
instance : D2M rNeq := ⟨fun d e Q Q' hq q => ⟨q.1, q.2.1, hq _ q.2.2⟩⟩
instance : D2M rIsN := ⟨fun d e Q Q' hq q => ⟨q.1, hq _ q.2⟩⟩
instance : D2M rNotN := ⟨fun d e Q Q' hq q => ⟨q.1, hq _ q.2⟩⟩
instance : D2M DL.rIx := ⟨fun d e Q Q' hq q => by
  unfold DL.rIx at q ⊢
  split at q
  · obtain ⟨z, a, b⟩ := q
    exact ⟨z, a, hq _ b⟩
  · obtain ⟨z, a, b⟩ := q
    exact ⟨z, a, hq _ b⟩
  · exact q⟩
instance : D1M rAbs := ⟨fun ds Q Q' hq q => by
  unfold rAbs at q ⊢
  split at q
  · exact hq _ q
  · exact q⟩
instance : D1M DL.rMax := ⟨fun ds Q Q' hq q => by
  unfold DL.rMax at q ⊢
  split at q
  · exact hq _ q
  · exact q⟩
instance : D1M DL.rMin := ⟨fun ds Q Q' hq q => by
  unfold DL.rMin at q ⊢
  split at q
  · exact hq _ q
  · exact q⟩
instance : D1M rInt1 := ⟨fun ds Q Q' hq q => by
  unfold rInt1 at q ⊢
  split at q
  · exact hq _ q
  · exact hq _ q
  · exact q⟩
instance : D1M rLen := ⟨fun ds Q Q' hq q => by
  unfold rLen at q ⊢
  split at q
  · exact hq _ q
  · exact hq _ q
  · exact ⟨q.1, hq _ q.2⟩
  · exact q⟩
instance : D1M rTuple := ⟨fun ds Q Q' hq q => by
  unfold rTuple at q ⊢
  split at q
  · exact hq _ q
  · exact hq _ q
  · exact q⟩
instance : D1M DL.rAll := ⟨fun ds Q Q' hq q => by
  unfold DL.rAll at q ⊢
  split at q
  · obtain ⟨bs, e, q⟩ := q
    exact ⟨bs, e, hq _ q⟩
  · exact q⟩
instance : D1M DL.rAny := ⟨fun ds Q Q' hq q => by
  unfold DL.rAny at q ⊢
  split at q
  · obtain ⟨bs, e, q⟩ := q
    exact ⟨bs, e, hq _ q⟩
  · exact q⟩
instance {i : Nat} : EMono (dVar i) := ⟨fun δ Q Q' hq q => by
  unfold dVar at q ⊢
  split at q
  · exact hq _ _ q
  · exact hq _ _ q
  · exact q⟩
instance {i : Nat} : LMono (dMove i) := ⟨fun δ Q Q' hq q => by
  unfold dMove at q ⊢
  split at q
  · exact hq _ _ q
  · exact q⟩
instance {d : PyData} : EMono (dC d) := ⟨fun δ Q Q' hq q => hq _ _ q⟩
instance [LMono l] : EMono (dShare l) := ⟨fun δ Q Q' hq q => LMono.m (t := l) _ _ _ (fun _ _ z => hq _ _ z) q⟩
instance : LMono (dNil) := ⟨fun δ Q Q' hq q => hq _ _ q⟩
instance [EMono ta] [LMono l] : LMono (dCons ta l) := ⟨fun δ Q Q' hq q => EMono.m (t := ta) _ _ _ (fun _ _ z => LMono.m (t := l) _ _ _ (fun _ _ z => hq _ _ z) z) q⟩
instance [LMono l] : EMono (dTup l) := ⟨fun δ Q Q' hq q => LMono.m (t := l) _ _ _ (fun _ _ z => ⟨z.1, hq _ _ z.2⟩) q⟩
instance [LMono l] : LMono (dLst l) := ⟨fun δ Q Q' hq q => LMono.m (t := l) _ _ _ (fun _ _ z => ⟨z.1, hq _ _ z.2⟩) q⟩
instance [D2M r] [EMono ta] [EMono tb] : EMono (dOp r ta tb) := ⟨fun δ Q Q' hq q => EMono.m (t := ta) _ _ _ (fun _ _ z => EMono.m (t := tb) _ _ _ (fun _ _ z => D2M.m (r := r) _ _ _ _ (fun _ z => hq _ _ z) z) z) q⟩
instance {i : Nat} [EMono ta] : EMono (dIxO i ta) := ⟨fun δ Q Q' hq q => by
  unfold dIxO at q ⊢
  split at q
  · refine EMono.m (t := ta) _ _ _ (fun d δ' z => ?_) q
    split at z
    · obtain ⟨w, a, b⟩ := z
      exact ⟨w, a, hq _ _ b⟩
    · exact rIx_mono _ _ _ _ (fun _ z => hq _ _ z) z
    · exact z
  · exact q⟩
instance [D2M r] [D2M r'] [EMono ta] [EMono tb] [EMono tc] : EMono (dChain r r' ta tb tc) := ⟨fun δ Q Q' hq q => by
  refine EMono.m (t := ta) _ _ _ (fun _ _ z => EMono.m (t := tb) _ _ _ (fun _ _ z => D2M.m (r := r) _ _ _ _ (fun _ z => ?_) z) z) q
  split at z
  · exact EMono.m (t := tc) _ _ _ (fun _ _ z => D2M.m (r := r') _ _ _ _ (fun _ z => hq _ _ z) z) z
  · exact hq _ _ z
  · exact z⟩
instance [EMono ta] [EMono tb] : EMono (dAndV ta tb) := ⟨fun δ Q Q' hq q => by
  refine EMono.m (t := ta) _ _ _ (fun d δ' z => ?_) q
  obtain ⟨k, e, z⟩ := z
  refine ⟨k, e, ?_⟩
  cases k with
  | true => exact EMono.m (t := tb) _ _ _ hq z
  | false => exact hq _ _ z⟩
instance [EMono ta] [EMono tb] : EMono (dOrV ta tb) := ⟨fun δ Q Q' hq q => by
  refine EMono.m (t := ta) _ _ _ (fun d δ' z => ?_) q
  obtain ⟨k, e, z⟩ := z
  refine ⟨k, e, ?_⟩
  cases k with
  | true => exact hq _ _ z
  | false => exact EMono.m (t := tb) _ _ _ hq z⟩
instance [EMono ta] : EMono (dNotV ta) := ⟨fun δ Q Q' hq q => EMono.m (t := ta) _ _ _ (fun d δ' ⟨k, e, z⟩ => ⟨k, e, hq _ _ z⟩) q⟩
instance [EMono ta] : EMono (dNeg ta) := ⟨fun δ Q Q' hq q => by
  refine EMono.m (t := ta) _ _ _ (fun d δ' z => ?_) q
  split at z
  · exact hq _ _ z
  · exact z⟩
instance [EMono ta] : EMono (dBits ta) := ⟨fun δ Q Q' hq q => by
  refine EMono.m (t := ta) _ _ _ (fun d δ' z => ?_) q
  split at z
  · exact hq _ _ z
  · exact z⟩
instance [TMono c] [EMono ta] [EMono tb] : EMono (dIf c ta tb) := ⟨fun δ Q Q' hq q => by
  refine TMono.m (t := c) _ _ _ (fun k δ' z => ?_) q
  cases k with
  | true => exact EMono.m (t := ta) _ _ _ hq z
  | false => exact EMono.m (t := tb) _ _ _ hq z⟩
instance [D1M r1] [LMono l] : EMono (dCB r1 l) := ⟨fun δ Q Q' hq q => LMono.m (t := l) _ _ _ (fun ds δ' z => D1M.m (r := r1) _ _ _ (fun _ z => hq _ _ z) z) q⟩
instance {T : String} [EMono ta] : EMono (dIsi T ta) := ⟨fun δ Q Q' hq q => EMono.m (t := ta) _ _ _ (fun d δ' z => hq _ _ z) q⟩
instance {dd : List PyData} [FMono f] [LMono l] : EMono (dCall f dd l) := ⟨fun δ Q Q' hq q => LMono.m (t := l) _ _ _ (fun ds δ' z => FMono.m (f := f) _ _ _ (fun r z => hq _ _ z) z) q⟩
instance {dd : List PyData} [FMono f] [LMono l] : LMono (dCallO f dd l) := ⟨fun δ Q Q' hq q => LMono.m (t := l) _ _ _ (fun ds δ' z => FMono.m (f := f) _ _ _ (fun r z => by
  cases r with
  | d d => exact z
  | o xs => exact hq _ _ z) z) q⟩
instance {i : Nat} [BMono fb] [LMono l] : EMono (dCallB i fb l) := ⟨fun δ Q Q' hq q => by
  unfold dCallB at q ⊢
  split at q
  · refine LMono.m (t := l) _ _ _ (fun ds δ' z => ?_) q
    split at z
    · exact BMono.m (f := fb) _ _ _ _ (fun r y z => hq _ _ z) z
    · exact z
  · exact q⟩
instance [EMono ta] : TMono (dTru ta) := ⟨fun δ Q Q' hq q => EMono.m (t := ta) _ _ _ (fun d δ' ⟨k, e, z⟩ => ⟨k, e, hq _ _ z⟩) q⟩
instance [EMono ta] : TMono (dTst ta) := ⟨fun δ Q Q' hq q => by
  refine EMono.m (t := ta) _ _ _ (fun d δ' z => ?_) q
  split at z
  · exact hq _ _ z
  · exact z⟩
instance [TMono c] [TMono c'] : TMono (dAnd c c') := ⟨fun δ Q Q' hq q => by
  refine TMono.m (t := c) _ _ _ (fun k δ' z => ?_) q
  cases k with
  | true => exact TMono.m (t := c') _ _ _ hq z
  | false => exact hq _ _ z⟩
instance [TMono c] [TMono c'] : TMono (dOr c c') := ⟨fun δ Q Q' hq q => by
  refine TMono.m (t := c) _ _ _ (fun k δ' z => ?_) q
  cases k with
  | true => exact hq _ _ z
  | false => exact TMono.m (t := c') _ _ _ hq z⟩
instance [TMono c] : TMono (dNot c) := ⟨fun δ Q Q' hq q => TMono.m (t := c) _ _ _ (fun _ _ z => hq _ _ z) q⟩
instance : TMono (dYes) := ⟨fun δ Q Q' hq q => hq _ _ q⟩
instance [EMono ta] : LMono (iLst ta) := ⟨fun δ Q Q' hq q => by
  refine EMono.m (t := ta) _ _ _ (fun d δ' z => ?_) q
  split at z
  · exact hq _ _ z
  · exact z⟩
instance [EMono ta] : LMono (iTpl ta) := ⟨fun δ Q Q' hq q => by
  refine EMono.m (t := ta) _ _ _ (fun d δ' z => ?_) q
  split at z
  · exact hq _ _ z
  · exact z⟩
instance [LMono l] : LMono (iRg1 l) := ⟨fun δ Q Q' hq q => by
  refine LMono.m (t := l) _ _ _ (fun d δ' z => ?_) q
  split at z
  · exact ⟨z.1, z.2.1, hq _ _ z.2.2⟩
  · exact z⟩
instance [LMono l] : LMono (iRg2 l) := ⟨fun δ Q Q' hq q => by
  refine LMono.m (t := l) _ _ _ (fun d δ' z => ?_) q
  split at z
  · exact ⟨z.1, hq _ _ z.2⟩
  · exact z⟩
instance [LMono l] : LMono (iZp l) := ⟨fun δ Q Q' hq q => by
  refine LMono.m (t := l) _ _ _ (fun d δ' z => ?_) q
  split at z
  · exact hq _ _ z
  · exact z⟩
instance [LMono l] : LMono (iEn l) := ⟨fun δ Q Q' hq q => by
  refine LMono.m (t := l) _ _ _ (fun d δ' z => ?_) q
  split at z
  · exact hq _ _ z
  · exact z⟩
instance {i : Nat} : GMono (gNm i) := ⟨fun d δ Q Q' hq q => hq _ q⟩
instance : GsMono (gsNil) := ⟨fun ds δ Q Q' hq q => by
  cases ds with
  | nil => exact hq _ q
  | cons _ _ => exact q⟩
instance [GMono g] [GsMono gs] : GsMono (gsCons g gs) := ⟨fun ds δ Q Q' hq q => by
  cases ds with
  | nil => exact q
  | cons d r => exact GMono.m (t := g) _ _ _ _ (fun _ z => GsMono.m (t := gs) _ _ _ _ hq z) q⟩
instance {n : Nat} [GsMono gs] : GMono (gTp n gs) := ⟨fun d δ Q Q' hq q => by
  unfold gTp at q ⊢
  split at q
  · exact ⟨q.1, GsMono.m (t := gs) _ _ _ _ hq q.2⟩
  · exact q⟩
instance {vs : List Nat} [LMono l] [GMono g] [TMono c] [EMono ta] : LMono (dLc l g c ta vs) := ⟨fun δ Q Q' hq q => LMono.m (t := l) _ _ _ (fun items δ1 z => dLcL_mono (GMono.m (t := g)) (TMono.m (t := c)) (EMono.m (t := ta)) hq _ _ _ z) q⟩
instance : SMono (dNx) := ⟨fun N N' δ le q => le.nx _ q⟩
instance : SMono (dBk) := ⟨fun N N' δ le q => le.bk _ q⟩
instance : SMono (dCt) := ⟨fun N N' δ le q => le.ct _ q⟩
instance : SMono (dRtN) := ⟨fun N N' δ le q => le.rt _ _ q⟩
instance : SMono (dNever) := ⟨fun N N' δ le q => q⟩
instance [SMono s] [SMono s'] : SMono (dSeq s s') := ⟨fun N N' δ le q => SMono.m (t := s) { N with nx := s' N } { N' with nx := s' N' } _ ⟨fun δ z => SMono.m (t := s') _ _ _ le z, le.rt, le.ro, le.bk, le.ct⟩ q⟩
instance [EMono ta] : SMono (dRet ta) := ⟨fun N N' δ le q => EMono.m (t := ta) _ _ _ (fun _ _ z => le.rt _ _ z) q⟩
instance [LMono l] : SMono (dRetO l) := ⟨fun N N' δ le q => LMono.m (t := l) _ _ _ (fun _ _ z => le.ro _ _ z) q⟩
instance [EMono ta] : SMono (dDrop ta) := ⟨fun N N' δ le q => EMono.m (t := ta) _ _ _ (fun _ _ z => le.nx _ z) q⟩
instance [TMono c] [SMono s] [SMono s'] : SMono (dIfS c s s') := ⟨fun N N' δ le q => by
  refine TMono.m (t := c) _ _ _ (fun k δ' z => ?_) q
  cases k with
  | true => exact SMono.m (t := s) _ _ _ le z
  | false => exact SMono.m (t := s') _ _ _ le z⟩
instance [EMono ta] [GMono g] : SMono (dAsg ta g) := ⟨fun N N' δ le q => EMono.m (t := ta) _ _ _ (fun _ _ z => GMono.m (t := g) _ _ _ _ (fun _ z => le.nx _ z) z) q⟩
instance {i : Nat} [EMono ta] : SMono (dSet i ta) := ⟨fun N N' δ le q => EMono.m (t := ta) _ _ _ (fun _ _ z => le.nx _ z) q⟩
instance {i : Nat} [LMono l] : SMono (dSetO i l) := ⟨fun N N' δ le q => LMono.m (t := l) _ _ _ (fun _ _ z => le.nx _ z) q⟩
instance {i j : Nat} [LMono l] : SMono (dPar i j l) := ⟨fun N N' δ le q => by
  refine LMono.m (t := l) _ _ _ (fun ds δ' z => ?_) q
  split at z
  · exact le.nx _ z
  · exact z⟩
instance {i : Nat} [EMono ta] [EMono tb] : SMono (dSetIx i ta tb) := ⟨fun N N' δ le q => by
  refine EMono.m (t := ta) _ _ _ (fun d δ' z => ?_) q
  split at z
  · refine EMono.m (t := tb) _ _ _ (fun e δ2 z => ?_) z
    split at z
    · obtain ⟨j, e, z⟩ := z
      exact ⟨j, e, le.nx _ z⟩
    · exact z
  · exact z⟩
instance {i : Nat} [EMono ta] : SMono (dApp i ta) := ⟨fun N N' δ le q => by
  unfold dApp at q ⊢
  split at q
  · refine EMono.m (t := ta) _ _ _ (fun d δ' z => ?_) q
    split at z
    · exact ⟨z.1, le.nx _ z.2⟩
    · exact z
  · exact q⟩
instance {i : Nat} {h : Int → Int → Int} [EMono ta] : SMono (dAug i h ta) := ⟨fun N N' δ le q => by
  unfold dAug at q ⊢
  split at q
  · refine EMono.m (t := ta) _ _ _ (fun d δ' z => ?_) q
    split at z
    · exact le.nx _ z
    · exact z
  · exact q⟩
theorem dForL_mono [GMono g] [SMono s] {N N' : DEnds} (le : N.Le N') : ∀ (items : List PyData) (δ : DSt), dForL g s N items δ → dForL g s N' items δ
  | [], δ, q => le.nx _ q
  | d :: r, δ, q => GMono.m (t := g) _ _ _ _ (fun δ' z => SMono.m (t := s) { N with nx := dForL g s N r, ct := dForL g s N r, bk := N.nx } { N' with nx := dForL g s N' r, ct := dForL g s N' r, bk := N'.nx } _ ⟨fun δ z => dForL_mono le r δ z, le.rt, le.ro, fun δ z => le.nx _ z, fun δ z => dForL_mono le r δ z⟩ z) q
instance [LMono l] [GMono g] [SMono s] : SMono (dFor l g s) := ⟨fun N N' δ le q => LMono.m (t := l) _ _ _ (fun items δ' z => dForL_mono le items δ' z) q⟩
instance [TMono c] [SMono s] : SMono (dWhile c s) := ⟨fun N N' δ le q => by
  obtain ⟨W, w0, turn⟩ := q
  refine ⟨W, w0, fun m δ w => TMono.m (t := c) _ _ _ (fun b δ1 z => ?_) (turn m δ w)⟩
  cases b with
  | true => exact SMono.m (t := s) { N with nx := fun δ' => ∃ m', m' < m ∧ W m' δ', ct := fun δ' => ∃ m', m' < m ∧ W m' δ', bk := N.nx } { N' with nx := fun δ' => ∃ m', m' < m ∧ W m' δ', ct := fun δ' => ∃ m', m' < m ∧ W m' δ', bk := N'.nx } _ ⟨fun _ z => z, le.rt, le.ro, fun _ z => le.nx _ z, fun _ z => z⟩ z
  | false => exact le.nx _ z⟩
/-- a statement, then others, met at J -/
theorem seq_at [SMono s] {N : DEnds} {δ : DSt} (J : DSt → Prop) (h1 : s { N with nx := J } δ) (h2 : ∀ δ, J δ → s' N δ) : dSeq s s' N δ :=
  SMono.m (t := s) { N with nx := J } { N with nx := s' N } _ ⟨fun δ z => h2 δ z, fun _ _ z => z, fun _ _ z => z, fun _ z => z, fun _ z => z⟩ h1
/-- a for by its invariant -/
theorem for_at [GMono g] [SMono s] {N : DEnds} {items : List PyData} {δ : DSt} (W : Nat → DSt → Prop) (h0 : W 0 δ)
    (hs : ∀ i d δ, items[i]? = some d → W i δ → g d δ fun δ' => s { N with nx := W (i + 1), ct := W (i + 1), bk := N.nx } δ') (hd : ∀ δ, W items.length δ → N.nx δ) : dForL g s N items δ := by
  have aux : ∀ (n i : Nat) (δ : DSt), i + n = items.length → W i δ → dForL g s N (items.drop i) δ := by
    intro n
    induction n with
    | zero =>
      intro i δ e w
      have e : i = items.length := by omega
      subst e
      rw [List.drop_length]
      exact hd δ w
    | succ n ih =>
      intro i δ e w
      have hi : i < items.length := by omega
      rw [List.drop_eq_getElem_cons hi]
      refine GMono.m (t := g) _ _ _ _ (fun δ' z => SMono.m (t := s) { N with nx := W (i + 1), ct := W (i + 1), bk := N.nx } { N with nx := dForL g s N (items.drop (i + 1)), ct := dForL g s N (items.drop (i + 1)), bk := N.nx } _ ⟨fun δ z => ih (i + 1) δ (by omega) z, fun _ _ z => z, fun _ _ z => z, fun _ z => z, fun δ z => ih (i + 1) δ (by omega) z⟩ z) (hs i _ δ (List.getElem?_eq_getElem hi) w)
  have := aux items.length 0 δ (by omega) h0
  rw [List.drop_zero] at this
  exact this
/-- the same with the invariant kept as a letter (the simplifier leaves it alone) -/
theorem seq_op [SMono s] {N : DEnds} {δ : DSt} (J : DSt → Prop) (h1 : ∀ J' : DSt → Prop, (∀ δ, J δ → J' δ) → s { N with nx := J' } δ) (h2 : ∀ δ, J δ → s' N δ) : dSeq s s' N δ := seq_at J (h1 J fun _ h => h) h2
theorem for_op [GMono g] [SMono s] {N : DEnds} {items : List PyData} {δ : DSt} (W : Nat → DSt → Prop) (h0 : W 0 δ)
    (hs : ∀ W' : Nat → DSt → Prop, (∀ i δ, W i δ → W' i δ) → ∀ i d δ, items[i]? = some d → W i δ → g d δ fun δ' => s { N with nx := W' (i + 1), ct := W' (i + 1), bk := N.nx } δ') (hd : ∀ δ, W items.length δ → N.nx δ) : dForL g s N items δ := for_at W h0 (hs W fun _ _ h => h) hd
theorem while_op {N : DEnds} {δ : DSt} (W : Nat → DSt → Prop) (h0 : ∃ m, W m δ)
    (hs : ∀ W' : Nat → DSt → Prop, (∀ m δ, W m δ → W' m δ) → ∀ m δ, W m δ → c δ fun b δ1 => match b with
      | true => s { N with nx := fun δ' => ∃ m', m' < m ∧ W' m' δ', ct := fun δ' => ∃ m', m' < m ∧ W' m' δ', bk := N.nx } δ1
      | false => N.nx δ1) : dWhile c s N δ := ⟨W, h0, hs W fun _ _ h => h⟩
end
end DL

namespace DM
/-! plain arithmetic: quotients and their sizes -/
theorem fdiv_neg_exact {a g k : Int} (hg : 0 < g) (h : a = g * k) : a.fdiv (-g) = -k := by
  have e : a = (-g) * (-k) := by rw [h, Int.neg_mul_neg]
  rw [e]
  exact Int.mul_fdiv_cancel_left _ (by omega)
theorem fdiv_exact {a g k : Int} (hg : g ≠ 0) (h : a = g * k) : a.fdiv g = k := by
  rw [h]
  exact Int.mul_fdiv_cancel_left _ hg
/-- top // both, bottom // both is the number in lowest terms -/
theorem num_pos {t b : Int} (hb : 0 < b) : t.fdiv (Int.gcd t b : Nat) = (Rat.divInt t b).num := by
  rw [Rat.num_divInt, Int.sign_eq_one_of_pos hb, Int.one_mul, Int.gcd_comm]
  exact Int.fdiv_eq_ediv_of_nonneg _ (by omega)
theorem den_pos' {t b : Int} (hb : 0 < b) : b.fdiv (Int.gcd t b : Nat) = ((Rat.divInt t b).den : Int) := by
  rw [Rat.den_divInt, if_neg (by omega), Int.gcd_comm, Int.fdiv_eq_ediv_of_nonneg _ (by omega)]
  rw [Int.natCast_ediv, show (b.natAbs : Int) = b by omega]
theorem num_neg {t b : Int} (hb : b < 0) : t.fdiv (0 - (Int.gcd t b : Nat)) = (Rat.divInt t b).num := by
  have hg : 0 < Int.gcd t b := Int.gcd_pos_of_ne_zero_right _ (by omega)
  obtain ⟨k, hk⟩ := Int.gcd_dvd_left t b
  rw [Int.zero_sub, fdiv_neg_exact (by omega) hk, Rat.num_divInt, Int.sign_eq_neg_one_of_neg hb, Int.gcd_comm b t]
  have e : -1 * t = (Int.gcd t b : Int) * (-k) := by rw [Int.mul_neg, ← hk]; omega
  rw [e, Int.mul_ediv_cancel_left _ (by omega)]
theorem den_neg {t b : Int} (hb : b < 0) : b.fdiv (0 - (Int.gcd t b : Nat)) = ((Rat.divInt t b).den : Int) := by
  have hg : 0 < Int.gcd t b := Int.gcd_pos_of_ne_zero_right _ (by omega)
  obtain ⟨k, hk⟩ := Int.gcd_dvd_right t b
  rw [Int.zero_sub, fdiv_neg_exact (by omega) hk, Rat.den_divInt, if_neg (by omega), Int.gcd_comm b t]
  have e : (b.natAbs : Int) = (Int.gcd t b : Int) * (-k) := by rw [Int.mul_neg, ← hk]; omega
  rw [Int.natCast_ediv, e, Int.mul_ediv_cancel_left _ (by omega)]
/-- gcd, one turn -/
theorem gcd_turn {a b : Int} (ha : 0 ≤ a) (hb : 0 < b) : Int.gcd b (a.fmod b) = Int.gcd a b := by
  rw [Int.fmod_eq_emod_of_nonneg _ (by omega), Int.gcd_comm a b]
  obtain ⟨m, rfl⟩ := Int.eq_ofNat_of_zero_le ha
  obtain ⟨n, rfl⟩ := Int.eq_ofNat_of_zero_le (Int.le_of_lt hb)
  rw [← Int.natCast_emod, Int.gcd_natCast_natCast, Int.gcd_natCast_natCast, Nat.gcd_comm n (m % n), ← Nat.gcd_rec]
theorem gcd_zero {a : Int} (ha : 0 ≤ a) : (Int.gcd a 0 : Int) = a := by
  rw [Int.gcd_zero_right]; omega
theorem abs_if (i : Int) : (if i < 0 then -i else i) = (i.natAbs : Int) := by split <;> omega
/-! sizes -/
def Bd (n : Nat) (q : Rat) : Prop := q.num.natAbs < 2 ^ n ∧ q.den < 2 ^ n
theorem Bd.mono {m n : Nat} {q : Rat} (h : Bd m q) (e : m ≤ n) : Bd n q :=
  ⟨Nat.lt_of_lt_of_le h.1 (Nat.pow_le_pow_right (by omega) e), Nat.lt_of_lt_of_le h.2 (Nat.pow_le_pow_right (by omega) e)⟩
theorem bd_divInt {n : Nat} {t b : Int} (ht : t.natAbs < 2 ^ n) (hb : b.natAbs < 2 ^ n) (h0 : b ≠ 0) : Bd n (Rat.divInt t b) := by
  constructor
  · rw [Rat.num_divInt, Int.natAbs_ediv_of_dvd (Int.dvd_trans (Int.gcd_dvd_right b t) (Int.dvd_mul_left ..)), Int.natAbs_mul, Int.natAbs_sign_of_ne_zero h0, Nat.one_mul]
    exact Nat.lt_of_le_of_lt (Nat.div_le_self ..) ht
  · rw [Rat.den_divInt, if_neg h0]
    exact Nat.lt_of_le_of_lt (Nat.div_le_self ..) hb
theorem Bd.pos {n : Nat} {q : Rat} (h : Bd n q) : 0 < n := by
  have := h.2
  have := q.den_pos
  cases n with
  | zero => simp at *; omega
  | succ n => omega
theorem mul_lt_pow {a b m n : Nat} (ha : a < 2 ^ m) (hb : b < 2 ^ n) : a * b < 2 ^ (m + n) := by
  rw [Nat.pow_add]
  exact Nat.mul_lt_mul'' ha hb
theorem add_lt_pow {a b m : Nat} (ha : a < 2 ^ m) (hb : b < 2 ^ m) : a + b < 2 ^ (m + 1) := by
  rw [Nat.pow_succ]
  omega
theorem add_divInt (u v : Rat) : u + v = Rat.divInt (u.num * v.den + v.num * u.den) ((u.den : Int) * v.den) := by
  rw [Rat.add_def', ← Rat.divInt_ofNat, Int.natCast_mul]
theorem mul_divInt (u v : Rat) : u * v = Rat.divInt (u.num * v.num) ((u.den : Int) * v.den) := by
  rw [Rat.mul_def', ← Rat.divInt_ofNat, Int.natCast_mul]
theorem sub_divInt (u v : Rat) : u - v = Rat.divInt (u.num * v.den - v.num * u.den) ((u.den : Int) * v.den) := by
  rw [Rat.sub_def', ← Rat.divInt_ofNat, Int.natCast_mul]
theorem div_divInt (u v : Rat) : u / v = Rat.divInt (u.num * v.den) ((u.den : Int) * v.num) := by
  rw [Rat.div_def, Rat.inv_def, ← Rat.num_divInt_den u, Rat.divInt_mul_divInt, Rat.num_divInt_den]
theorem den_ne (u : Rat) : (u.den : Int) ≠ 0 := by have := u.den_pos; omega
theorem den_mul_ne (u v : Rat) : (u.den : Int) * v.den ≠ 0 := Int.mul_ne_zero (den_ne u) (den_ne v)
theorem nat_add {m n : Nat} {u v : Rat} (hu : Bd m u) (hv : Bd n v) : (u.num * v.den + v.num * u.den).natAbs < 2 ^ (m + n + 1) := by
  refine Nat.lt_of_le_of_lt (Int.natAbs_add_le ..) ?_
  rw [Int.natAbs_mul, Int.natAbs_mul, Int.natAbs_natCast, Int.natAbs_natCast]
  refine add_lt_pow (mul_lt_pow hu.1 hv.2) ?_
  rw [Nat.add_comm m n]
  exact mul_lt_pow hv.1 hu.2
theorem nat_den {m n : Nat} {u v : Rat} (hu : Bd m u) (hv : Bd n v) : ((u.den : Int) * v.den).natAbs < 2 ^ (m + n) := by
  rw [Int.natAbs_mul, Int.natAbs_natCast, Int.natAbs_natCast]
  exact mul_lt_pow hu.2 hv.2
theorem Bd.add {m n : Nat} {u v : Rat} (hu : Bd m u) (hv : Bd n v) : Bd (m + n + 1) (u + v) := by
  rw [add_divInt]
  exact bd_divInt (nat_add hu hv) (Nat.lt_of_lt_of_le (nat_den hu hv) (Nat.pow_le_pow_right (by omega) (by omega))) (den_mul_ne u v)
theorem Bd.neg {m : Nat} {u : Rat} (hu : Bd m u) : Bd m (-u) := ⟨by rw [Rat.neg_num, Int.natAbs_neg]; exact hu.1, by rw [Rat.neg_den]; exact hu.2⟩
theorem Bd.sub {m n : Nat} {u v : Rat} (hu : Bd m u) (hv : Bd n v) : Bd (m + n + 1) (u - v) := by
  rw [Rat.sub_eq_add_neg]
  exact hu.add hv.neg
theorem Bd.mul {m n : Nat} {u v : Rat} (hu : Bd m u) (hv : Bd n v) : Bd (m + n) (u * v) := by
  rw [mul_divInt]
  refine bd_divInt ?_ (nat_den hu hv) (den_mul_ne u v)
  rw [Int.natAbs_mul]
  exact mul_lt_pow hu.1 hv.1
theorem Bd.div {m n : Nat} {u v : Rat} (hu : Bd m u) (hv : Bd n v) (h0 : v ≠ 0) : Bd (m + n) (u / v) := by
  rw [div_divInt]
  have hn : v.num ≠ 0 := fun e => h0 (Rat.num_eq_zero.mp e)
  refine bd_divInt ?_ ?_ (Int.mul_ne_zero (den_ne u) hn)
  · rw [Int.natAbs_mul, Int.natAbs_natCast]
    exact mul_lt_pow hu.1 hv.2
  · rw [Int.natAbs_mul, Int.natAbs_natCast]
    exact mul_lt_pow hu.2 hv.1
theorem Bd.int {n : Nat} {i : Int} (h : i.natAbs < 2 ^ n) (hn : 0 < n) : Bd n (i : Rat) := by
  refine ⟨h, ?_⟩
  show 1 < 2 ^ n
  exact Nat.one_lt_two_pow (by omega)
theorem log2_lt {a n : Nat} (h : a < 2 ^ n) (hn : 0 < n) : a.log2 < n := by
  by_cases e : a = 0
  · subst e; simpa using hn
  · exact (Nat.log2_lt e).mpr h
end DM
namespace DL
open PySem PySem.Spec L2 DM
/-! ### places of written lists -/
theorem atI_0 {α : Type} {a : α} {r : List α} : atI (a :: r) 0 = some a := atI_nat (j := 0) rfl
theorem atI_1 {α : Type} {a b : α} {r : List α} : atI (a :: b :: r) 1 = some b := atI_nat (j := 1) rfl
theorem atI_2 {α : Type} {a b c : α} {r : List α} : atI (a :: b :: c :: r) 2 = some c := atI_nat (j := 2) rfl
theorem atI_3 {α : Type} {a b c d : α} {r : List α} : atI (a :: b :: c :: d :: r) 3 = some d := atI_nat (j := 3) rfl
theorem atI_4 {α : Type} {a b c d e : α} {r : List α} : atI (a :: b :: c :: d :: e :: r) 4 = some e := atI_nat (j := 4) rfl
theorem ixN_0 {n : Nat} : ixN (n + 1) 0 = some 0 := by unfold ixN; rw [if_pos (by omega), if_pos (by omega)]; rfl
theorem ixN_1 {n : Nat} : ixN (n + 2) 1 = some 1 := by unfold ixN; rw [if_pos (by omega), if_pos (by omega)]; rfl
theorem ixN_2 {n : Nat} : ixN (n + 3) 2 = some 2 := by unfold ixN; rw [if_pos (by omega), if_pos (by omega)]; rfl
theorem atI_of {α : Type} {xs : List α} {i : Int} (h0 : 0 ≤ i) (h1 : i < xs.length) : ∃ z, atI xs i = some z ∧ xs[i.toNat]? = some z := by
  have hi : i.toNat < xs.length := by omega
  refine ⟨xs[i.toNat], ?_, List.getElem?_eq_getElem hi⟩
  have := atI_nat (xs := xs) (j := i.toNat) (List.getElem?_eq_getElem hi)
  rw [Int.toNat_of_nonneg h0] at this
  exact this
theorem atI_ints {ns : List Int} {i : Int} (h0 : 0 ≤ i) (h1 : i < ns.length) : ∃ z : Int, atI (ns.map PyData.int) i = some (.int z) ∧ ns[i.toNat]? = some z := by
  obtain ⟨z, e1, e2⟩ := atI_of (xs := ns.map PyData.int) h0 (by rw [List.length_map]; exact h1)
  rw [List.getElem?_map] at e2
  cases q : ns[i.toNat]? with
  | none => rw [q] at e2; cases e2
  | some y =>
    rw [q] at e2
    cases e2
    exact ⟨y, e1, rfl⟩
theorem pick2 {a b d : Int} (h0 : 0 ≤ d) (h1 : d < 2) : ∃ z : Int, (z = a ∨ z = b) ∧ atI [PyData.int a, PyData.int b] d = some (.int z) := by
  rcases (show d = 0 ∨ d = 1 by omega) with e | e <;> subst e
  · exact ⟨a, .inl rfl, atI_0⟩
  · exact ⟨b, .inr rfl, atI_1⟩
theorem pick3 {a b c d : Int} (h0 : 0 ≤ d) (h1 : d < 3) : ∃ z : Int, (z = a ∨ z = b ∨ z = c) ∧ atI [PyData.int a, PyData.int b, PyData.int c] d = some (.int z) := by
  rcases (show d = 0 ∨ d = 1 ∨ d = 2 by omega) with e | e | e <;> subst e
  · exact ⟨a, .inl rfl, atI_0⟩
  · exact ⟨b, .inr (.inl rfl), atI_1⟩
  · exact ⟨c, .inr (.inr rfl), atI_2⟩
theorem pick4 {a b c f d : Int} (h0 : 0 ≤ d) (h1 : d < 4) : ∃ z : Int, (z = a ∨ z = b ∨ z = c ∨ z = f) ∧ atI [PyData.int a, PyData.int b, PyData.int c, PyData.int f] d = some (.int z) := by
  rcases (show d = 0 ∨ d = 1 ∨ d = 2 ∨ d = 3 by omega) with e | e | e | e <;> subst e
  · exact ⟨a, .inl rfl, atI_0⟩
  · exact ⟨b, .inr (.inl rfl), atI_1⟩
  · exact ⟨c, .inr (.inr (.inl rfl)), atI_2⟩
  · exact ⟨f, .inr (.inr (.inr rfl)), atI_3⟩
/-! ### sizes that the rules ask -/
theorem mulW {i j : Int} {a b : Nat} (ha : i.natAbs < 2 ^ a) (hb : j.natAbs < 2 ^ b) (h : a + b ≤ 900000) : CMulW i j :=
  wide_mul (Nat.lt_of_lt_of_le ha (Nat.pow_le_pow_right (by omega) (show a ≤ a + 1 by omega))) (Nat.lt_of_lt_of_le hb (Nat.pow_le_pow_right (by omega) (show b ≤ b + 1 by omega))) (by omega) (by omega) (by omega)
theorem mul64 {i j : Int} (h1 : -18446744073709551616 < i) (h2 : i < 18446744073709551616) (h3 : -18446744073709551616 < j) (h4 : j < 18446744073709551616) : CMulW i j :=
  mulW (a := 64) (b := 64) (by have : (2 : Nat) ^ 64 = 18446744073709551616 := by decide
                               omega) (by have : (2 : Nat) ^ 64 = 18446744073709551616 := by decide
                                          omega) (by decide)
theorem divA {i j : Int} {b : Nat} (h0 : j ≠ 0) (hb : j.natAbs < 2 ^ b) (h : b ≤ 9000) : CDivA i j := by
  refine ⟨h0, Nat.lt_of_lt_of_le (log2_lt (Nat.lt_of_lt_of_le hb (Nat.pow_le_pow_right (by omega) h)) (by omega)) (Nat.le_refl _)⟩
theorem div64 {i j : Int} (h0 : j ≠ 0) (h3 : -18446744073709551616 < j) (h4 : j < 18446744073709551616) : CDivA i j :=
  divA (b := 64) h0 (by have : (2 : Nat) ^ 64 = 18446744073709551616 := by decide
                        omega) (by decide)
theorem pow64 {i j : Int} (h1 : -18446744073709551616 < i) (h2 : i < 18446744073709551616) (h3 : 0 ≤ j) (h4 : j ≤ 1000000) : CPow i j :=
  ⟨h3, h4, by have : (2 : Nat) ^ 64 = 18446744073709551616 := by decide
              omega⟩
theorem fmod_in {a b : Int} (h : 0 < b) : 0 ≤ a.fmod b ∧ a.fmod b < b := ⟨Int.fmod_nonneg_of_pos a h, Int.fmod_lt_of_pos a h⟩
theorem fdiv_nn {a b : Int} (ha : 0 ≤ a) (h : 0 < b) : 0 ≤ a.fdiv b := Int.fdiv_nonneg ha (by omega)
theorem mul_in {a b A B : Int} (ha : 0 ≤ a) (hA : a ≤ A) (hb : 0 ≤ b) (hB : b ≤ B) : 0 ≤ a * b ∧ a * b ≤ A * B := ⟨Int.mul_nonneg ha hb, Int.mul_le_mul hA hB hb (by omega)⟩
theorem Sl.sh_inj {d e : PyData} : (Sl.sh d = Sl.sh e) = (d = e) := by rw [Sl.sh.injEq]
theorem size2 : 2 ≤ sizeLine := by decide
theorem size3 : 3 ≤ sizeLine := by decide
theorem size4 : 4 ≤ sizeLine := by decide
theorem size5 : 5 ≤ sizeLine := by decide
/-! ### promises in short -/
section
variable {α β γ κ ε : Type}
def fn1 (a : α → PyData) (pre : α → Prop) (g : α → PyData) : FP := fun ds Q => ∃ x, ds = [a x] ∧ pre x ∧ Q (.d (g x))
def fn2 (a : α → PyData) (b : β → PyData) (pre : α → β → Prop) (g : α → β → PyData) : FP := fun ds Q => ∃ x y, ds = [a x, b y] ∧ pre x y ∧ Q (.d (g x y))
def fn3 (a : α → PyData) (b : β → PyData) (c : γ → PyData) (pre : α → β → γ → Prop) (g : α → β → γ → PyData) : FP := fun ds Q => ∃ x y z, ds = [a x, b y, c z] ∧ pre x y z ∧ Q (.d (g x y z))
def fn4 (a : α → PyData) (b : β → PyData) (c : γ → PyData) (d : κ → PyData) (pre : α → β → γ → κ → Prop) (g : α → β → γ → κ → PyData) : FP := fun ds Q => ∃ x y z u, ds = [a x, b y, c z, d u] ∧ pre x y z u ∧ Q (.d (g x y z u))
theorem fm1 {a : α → PyData} {pre : α → Prop} {g : α → PyData} : FMono (fn1 a pre g) := ⟨fun ds Q Q' hq ⟨x, e, p, q⟩ => ⟨x, e, p, hq _ q⟩⟩
theorem fm2 {a : α → PyData} {b : β → PyData} {pre : α → β → Prop} {g : α → β → PyData} : FMono (fn2 a b pre g) := ⟨fun ds Q Q' hq ⟨x, y, e, p, q⟩ => ⟨x, y, e, p, hq _ q⟩⟩
theorem fm3 {a : α → PyData} {b : β → PyData} {c : γ → PyData} {pre : α → β → γ → Prop} {g : α → β → γ → PyData} : FMono (fn3 a b c pre g) := ⟨fun ds Q Q' hq ⟨x, y, z, e, p, q⟩ => ⟨x, y, z, e, p, hq _ q⟩⟩
theorem fm4 {a : α → PyData} {b : β → PyData} {c : γ → PyData} {d : κ → PyData} {pre : α → β → γ → κ → Prop} {g : α → β → γ → κ → PyData} : FMono (fn4 a b c d pre g) := ⟨fun ds Q Q' hq ⟨x, y, z, u, e, p, q⟩ => ⟨x, y, z, u, e, p, hq _ q⟩⟩
theorem ln1 {a : α → PyData} {pre : α → Prop} {g : α → PyData} : ∀ ds Q, fn1 a pre g ds Q → ds.length = 1 := fun ds Q ⟨x, e, _⟩ => by rw [e]; rfl
theorem ln2 {a : α → PyData} {b : β → PyData} {pre : α → β → Prop} {g : α → β → PyData} : ∀ ds Q, fn2 a b pre g ds Q → ds.length = 2 := fun ds Q ⟨x, y, e, _⟩ => by rw [e]; rfl
theorem ln3 {a : α → PyData} {b : β → PyData} {c : γ → PyData} {pre : α → β → γ → Prop} {g : α → β → γ → PyData} : ∀ ds Q, fn3 a b c pre g ds Q → ds.length = 3 := fun ds Q ⟨x, y, z, e, _⟩ => by rw [e]; rfl
theorem ln4 {a : α → PyData} {b : β → PyData} {c : γ → PyData} {d : κ → PyData} {pre : α → β → γ → κ → Prop} {g : α → β → γ → κ → PyData} : ∀ ds Q, fn4 a b c d pre g ds Q → ds.length = 4 := fun ds Q ⟨x, y, z, u, e, _⟩ => by rw [e]; rfl
theorem fn1_ap {a : α → PyData} {pre : α → Prop} {g : α → PyData} (ia : ∀ x y, a x = a y → x = y) {x : α} {Q : Res → Prop} : fn1 a pre g [a x] Q = (pre x ∧ Q (.d (g x))) := propext ⟨fun ⟨x', e, p, q⟩ => by
  injection e with e1 _
  rw [ia _ _ e1]
  exact ⟨p, q⟩, fun ⟨p, q⟩ => ⟨x, rfl, p, q⟩⟩
theorem fn2_ap {a : α → PyData} {b : β → PyData} {pre : α → β → Prop} {g : α → β → PyData} (ia : ∀ x y, a x = a y → x = y) (ib : ∀ x y, b x = b y → x = y) {x : α} {y : β} {Q : Res → Prop} : fn2 a b pre g [a x, b y] Q = (pre x y ∧ Q (.d (g x y))) := propext ⟨fun ⟨x', y', e, p, q⟩ => by
  injection e with e1 e2
  injection e2 with e2 _
  rw [ia _ _ e1, ib _ _ e2]
  exact ⟨p, q⟩, fun ⟨p, q⟩ => ⟨x, y, rfl, p, q⟩⟩
theorem fn3_ap {a : α → PyData} {b : β → PyData} {c : γ → PyData} {pre : α → β → γ → Prop} {g : α → β → γ → PyData} (ia : ∀ x y, a x = a y → x = y) (ib : ∀ x y, b x = b y → x = y) (ic : ∀ x y, c x = c y → x = y) {x : α} {y : β} {z : γ} {Q : Res → Prop} : fn3 a b c pre g [a x, b y, c z] Q = (pre x y z ∧ Q (.d (g x y z))) := propext ⟨fun ⟨x', y', z', e, p, q⟩ => by
  injection e with e1 e2
  injection e2 with e2 e3
  injection e3 with e3 _
  rw [ia _ _ e1, ib _ _ e2, ic _ _ e3]
  exact ⟨p, q⟩, fun ⟨p, q⟩ => ⟨x, y, z, rfl, p, q⟩⟩
theorem int_inj (x y : Int) (h : PyData.int x = PyData.int y) : x = y := PyData.int.inj h
/-- a law's bag of draws, drawn from at most n times -/
def BagOk (n : Nat) (xs : List PyData) : Prop := ∃ g m s : Int, xs = [.int g, .int m, .int s] ∧ 0 ≤ g ∧ 0 ≤ m ∧ m < 2305843009213693952 ∧ 0 ≤ s ∧ s ≤ n
theorem BagOk.mono {m n : Nat} {xs : List PyData} (h : BagOk m xs) (e : m ≤ n) : BagOk n xs := by
  obtain ⟨g, k, s, h1, h2, h3, h4, h5, h6⟩ := h
  exact ⟨g, k, s, h1, h2, h3, h4, h5, by omega⟩
def mostDraws : Nat := 1000000
/-- draws some a with post, by at most c draws -/
def bg0 (c : Nat) (r : α → PyData) (post : α → Prop) : FB := fun xs ds Q => ∃ n, BagOk n xs ∧ n + c ≤ mostDraws ∧ ds = [] ∧ ∀ a xs', post a → BagOk (n + c) xs' → Q (.d (r a)) xs'
def bg1 (c : Nat) (b : β → PyData) (pre : β → Prop) (r : α → PyData) (post : β → α → Prop) : FB := fun xs ds Q => ∃ n x, BagOk n xs ∧ n + c ≤ mostDraws ∧ ds = [b x] ∧ pre x ∧ ∀ a xs', post x a → BagOk (n + c) xs' → Q (.d (r a)) xs'
def bg2 (c : Nat) (b : β → PyData) (e : γ → PyData) (pre : β → γ → Prop) (r : α → PyData) (post : β → γ → α → Prop) : FB := fun xs ds Q => ∃ n x y, BagOk n xs ∧ n + c ≤ mostDraws ∧ ds = [b x, e y] ∧ pre x y ∧ ∀ a xs', post x y a → BagOk (n + c) xs' → Q (.d (r a)) xs'
theorem bm0 {c : Nat} {r : α → PyData} {post : α → Prop} : BMono (bg0 c r post) := ⟨fun xs ds Q Q' hq ⟨n, h1, h2, h3, h⟩ => ⟨n, h1, h2, h3, fun a xs' p b => hq _ _ (h a xs' p b)⟩⟩
theorem bm1 {c : Nat} {b : β → PyData} {pre : β → Prop} {r : α → PyData} {post : β → α → Prop} : BMono (bg1 c b pre r post) := ⟨fun xs ds Q Q' hq ⟨n, x, h1, h2, h3, h4, h⟩ => ⟨n, x, h1, h2, h3, h4, fun a xs' p b => hq _ _ (h a xs' p b)⟩⟩
theorem bm2 {c : Nat} {b : β → PyData} {e : γ → PyData} {pre : β → γ → Prop} {r : α → PyData} {post : β → γ → α → Prop} : BMono (bg2 c b e pre r post) := ⟨fun xs ds Q Q' hq ⟨n, x, y, h1, h2, h3, h4, h⟩ => ⟨n, x, y, h1, h2, h3, h4, fun a xs' p b => hq _ _ (h a xs' p b)⟩⟩
theorem bl0 {c : Nat} {r : α → PyData} {post : α → Prop} : ∀ xs ds Q, bg0 c r post xs ds Q → ds.length + 1 = 1 := fun xs ds Q ⟨n, h1, h2, h3, h⟩ => by rw [h3]; rfl
theorem bl1 {c : Nat} {b : β → PyData} {pre : β → Prop} {r : α → PyData} {post : β → α → Prop} : ∀ xs ds Q, bg1 c b pre r post xs ds Q → ds.length + 1 = 2 := fun xs ds Q ⟨n, x, h1, h2, h3, h⟩ => by rw [h3]; rfl
theorem bl2 {c : Nat} {b : β → PyData} {e : γ → PyData} {pre : β → γ → Prop} {r : α → PyData} {post : β → γ → α → Prop} : ∀ xs ds Q, bg2 c b e pre r post xs ds Q → ds.length + 1 = 3 := fun xs ds Q ⟨n, x, y, h1, h2, h3, h⟩ => by rw [h3]; rfl
end
/-! ### the laws' own defs that every law has -/
def numD (q : Rat) : PyData := .tuple [.int q.num, .int (q.den : Int)]
theorem numD_inj {a b : Rat} : numD a = numD b ↔ a = b := by
  constructor
  · intro h
    unfold numD at h
    injection h with h
    injection h with h1 h2
    injection h1 with h1
    injection h2 with h2
    injection h2 with h2
    exact Rat.ext h1 (by omega)
  · intro h
    rw [h]
def f_bag : FP := fun ds Q => ∃ (ns : List Int) (k : Int), ds = [.list (ns.map .int), .int k] ∧ ns.length ≤ 63 ∧ 0 ≤ k ∧ k ≤ 1000 ∧ ∀ xs, BagOk 0 xs → Q (.o xs)
theorem fm_bag : FMono f_bag := ⟨fun ds Q Q' hq ⟨ns, k, h1, h2, h3, h4, h⟩ => ⟨ns, k, h1, h2, h3, h4, fun xs b => hq _ (h xs b)⟩⟩
theorem ln_bag : ∀ ds Q, f_bag ds Q → ds.length = 2 := fun ds Q ⟨ns, k, e, _⟩ => by rw [e]; rfl
def f_take : FB := bg1 1 PyData.int (fun m => 0 < m ∧ m < 2 ^ 64) PyData.int (fun m d => 0 ≤ d ∧ d < m)
def f_shared : FP := fn2 PyData.int PyData.int (fun _ _ => True) (fun a b => .int (Int.gcd a b : Nat))
def f_ratio : FP := fn2 PyData.int PyData.int (fun _ b => b ≠ 0 ∧ b.natAbs < 2 ^ 9000) (fun a b => numD (Rat.divInt a b))
theorem num_int {i : Int} : PyData.tuple [.int i, .int 1] = numD (i : Rat) := rfl
theorem num_inj (x y : Rat) (h : numD x = numD y) : x = y := numD_inj.mp h
theorem ap_shared {a b : Int} {Q : Res → Prop} : f_shared [.int a, .int b] Q = (True ∧ Q (.d (.int (Int.gcd a b : Nat)))) := fn2_ap int_inj int_inj
theorem ap_ratio {a b : Int} {Q : Res → Prop} : f_ratio [.int a, .int b] Q = ((b ≠ 0 ∧ b.natAbs < 2 ^ 9000) ∧ Q (.d (numD (Rat.divInt a b)))) := fn2_ap int_inj int_inj
theorem take_at {xs : List PyData} {n : Nat} {m : Int} {Q : Res → List PyData → Prop} (hb : BagOk n xs) (hn : n + 1 ≤ mostDraws) (h0 : 0 < m) (h1 : m < 2 ^ 64) (h : ∀ (d : Int) xs', 0 ≤ d → d < m → BagOk (n + 1) xs' → Q (.d (.int d)) xs') : f_take xs [.int m] Q :=
  ⟨n, m, hb, hn, rfl, ⟨h0, h1⟩, fun a xs' p b => h a xs' p.1 p.2 b⟩
instance : BMono f_take := bm1
instance : FMono f_shared := fm2
instance : FMono f_ratio := fm2
instance : FMono f_bag := fm_bag
theorem ratio_bd {t b : Int} {n : Nat} (h0 : b ≠ 0) (h1 : t.natAbs < 2 ^ n) (h2 : b.natAbs < 2 ^ n) : Bd n (Rat.divInt t b) := bd_divInt h1 h2 h0
def f_number : FB := bg0 4 numD (Bd 30)
instance : BMono f_number := bm0
theorem number_at {xs : List PyData} {n : Nat} {Q : Res → List PyData → Prop} (hb : BagOk n xs) (hn : n + 4 ≤ mostDraws) (h : ∀ (u : Rat) xs', Bd 30 u → BagOk (n + 4) xs' → Q (.d (numD u)) xs') : f_number xs [] Q :=
  ⟨n, hb, hn, rfl, h⟩
def f_law : FP := fun ds Q => ∃ ns : List Int, ds = [.list (ns.map .int)] ∧ ns.length ≤ 63 ∧ Q (.d (.bool true))
theorem fm_law : FMono f_law := ⟨fun ds Q Q' hq ⟨ns, h1, h2, h⟩ => ⟨ns, h1, h2, hq _ h⟩⟩
theorem ln_law : ∀ ds Q, f_law ds Q → ds.length = 1 := fun ds Q ⟨ns, e, _⟩ => by rw [e]; rfl
theorem law_start {K : Fg} {H : Hp} {a : Addr} {ns : List Int} {E : XK} (hl : ns.length ≤ 63) (hS : SqL K H a (ns.map V.int)) : spP K f_law [.ref a] H (fun v _ => v = .bl true) E := by
  refine ⟨H, [.list (ns.map .int)], Same.refl _, .cons (.lst hS (DpAll.ints ns)) .nil, ns, rfl, hl, fun v Hs' H' _ d => ?_⟩
  cases d
  rfl
end DL
namespace DL
open PySem PySem.Spec L2 DM
def f_below : FP := fn2 numD numD (fun u v => Bd 4000 u ∧ Bd 4000 v) (fun u v => .bool (decide (u < v)))
def f_whole : FP := fn1 numD (Bd 4000) (fun u => .int u.floor)
theorem ap_below {u v : Rat} {Q : Res → Prop} : f_below [numD u, numD v] Q = ((Bd 4000 u ∧ Bd 4000 v) ∧ Q (.d (.bool (decide (u < v))))) := fn2_ap num_inj num_inj
theorem ap_whole {u : Rat} {Q : Res → Prop} : f_whole [numD u] Q = (Bd 4000 u ∧ Q (.d (.int u.floor))) := fn1_ap num_inj
instance : FMono f_below := fm2
instance : FMono f_whole := fm1
end DL

namespace DL
open PySem PySem.Spec L2 DM
/-! ### how readings are simplified -/
theorem rII_int {C : Int → Int → Prop} {g : Int → Int → PyData} {i j : Int} {Q : PyData → Prop} : rII C g (.int i) (.int j) Q = (C i j ∧ Q (g i j)) := rfl
theorem rIx_tup {xs : List PyData} {i : Int} {Q : PyData → Prop} : DL.rIx (.tuple xs) (.int i) Q = (∃ z, atI xs i = some z ∧ Q z) := rfl
theorem rIx_list {xs : List PyData} {i : Int} {Q : PyData → Prop} : DL.rIx (.list xs) (.int i) Q = (∃ z, atI xs i = some z ∧ Q z) := rfl
theorem rIx_num0 {u : Rat} {Q : PyData → Prop} : DL.rIx (numD u) (.int 0) Q = Q (.int u.num) := by
  unfold numD
  rw [rIx_tup, atI_0]
  simp only [Option.some.injEq, exists_eq_left']
theorem rIx_num1 {u : Rat} {Q : PyData → Prop} : DL.rIx (numD u) (.int 1) Q = Q (.int (u.den : Int)) := by
  unfold numD
  rw [rIx_tup, atI_1]
  simp only [Option.some.injEq, exists_eq_left']
theorem asD_d {d : PyData} : asD (.d d) = d := rfl
theorem asD_o {xs : List PyData} : asD (.o xs) = .list xs := rfl
theorem tru_none : tru .none = some false := rfl
theorem tru_bool {b : Bool} : tru (.bool b) = some b := rfl
theorem tru_int {i : Int} : tru (.int i) = some (i != 0) := rfl
theorem tru_list {xs : List PyData} : tru (.list xs) = some (!xs.isEmpty) := rfl
theorem tru_tuple {xs : List PyData} : tru (.tuple xs) = some (!xs.isEmpty) := rfl
theorem tru_num {u : Rat} : tru (numD u) = some true := rfl
theorem isN_none : isNone .none = true := rfl
theorem isN_bool {b : Bool} : isNone (.bool b) = false := rfl
theorem isN_int {b : Int} : isNone (.int b) = false := rfl
theorem isN_str {b : Str} : isNone (.str b) = false := rfl
theorem isN_list {b : List PyData} : isNone (.list b) = false := rfl
theorem isN_tuple {b : List PyData} : isNone (.tuple b) = false := rfl
theorem isN_num {u : Rat} : isNone (numD u) = false := rfl
theorem rLen_list {xs : List PyData} {Q : PyData → Prop} : rLen [.list xs] Q = Q (.int xs.length) := rfl
theorem rLen_tuple {xs : List PyData} {Q : PyData → Prop} : rLen [.tuple xs] Q = Q (.int xs.length) := rfl
theorem rLen_str {x : Str} {Q : PyData → Prop} : rLen [.str x] Q = (x.length ≤ sizeLine ∧ Q (.int x.length)) := rfl
theorem rLen_num {u : Rat} {Q : PyData → Prop} : rLen [numD u] Q = Q (.int 2) := rfl
theorem rInt1_int {i : Int} {Q : PyData → Prop} : rInt1 [.int i] Q = Q (.int i) := rfl
theorem rInt1_bool {k : Bool} {Q : PyData → Prop} : rInt1 [.bool k] Q = Q (.int (if k then 1 else 0)) := rfl
theorem rTuple_list {xs : List PyData} {Q : PyData → Prop} : rTuple [.list xs] Q = Q (.tuple xs) := rfl
theorem rTuple_tuple {xs : List PyData} {Q : PyData → Prop} : rTuple [.tuple xs] Q = Q (.tuple xs) := rfl
theorem sh_none : SeqAt.shaped .none = true := rfl
theorem sh_bool {b : Bool} : SeqAt.shaped (.bool b) = true := rfl
theorem sh_int {i : Int} : SeqAt.shaped (.int i) = true := rfl
theorem sh_num {u : Rat} : SeqAt.shaped (numD u) = true := rfl
theorem sh_nn {u v : Rat} : SeqAt.shaped (.tuple [numD u, numD v]) = true := rfl
theorem eqv_nn : PyData.eqv .none .none = true := rfl
theorem eqv_bb {a b : Bool} : PyData.eqv (.bool a) (.bool b) = (a == b) := rfl
theorem eqv_ii {a b : Int} : PyData.eqv (.int a) (.int b) = (a == b) := rfl
theorem eqv_ss {a b : Str} : PyData.eqv (.str a) (.str b) = (a == b) := rfl
theorem eqv_tt {a b : List PyData} : PyData.eqv (.tuple a) (.tuple b) = PyData.eqvAll a b := rfl
theorem eqv_ll {a b : List PyData} : PyData.eqv (.list a) (.list b) = PyData.eqvAll a b := rfl
theorem eqvAll_nil : PyData.eqvAll [] [] = true := rfl
theorem eqvAll_cons {a b : PyData} {r s : List PyData} : PyData.eqvAll (a :: r) (b :: s) = (PyData.eqv a b && PyData.eqvAll r s) := rfl
theorem eqv_num {u v : Rat} : PyData.eqv (numD u) (numD v) = decide (u = v) := by
  unfold numD
  rw [eqv_tt, eqvAll_cons, eqvAll_cons, eqvAll_nil, eqv_ii, eqv_ii]
  by_cases h : u = v
  · subst h
    simp
  · rw [decide_eq_false h]
    rw [Bool.and_true, Bool.and_eq_false_iff]
    by_cases e : u.num = v.num
    · right
      rw [beq_eq_false_iff_ne]
      intro z
      exact h (Rat.ext e (by omega))
    · left
      rw [beq_eq_false_iff_ne]
      exact e
theorem eqv_num_none {u : Rat} : PyData.eqv (numD u) .none = false := rfl
theorem eqv_none_num {u : Rat} : PyData.eqv .none (numD u) = false := rfl
theorem isT_int_NoneType : isT "int" (tyName (.none)) = false := by
  show isT "int" "NoneType" = false
  decide
theorem isT_int_bool {b : Bool} : isT "int" (tyName (.bool b)) = true := by
  show isT "int" "bool" = true
  decide
theorem isT_int_int {b : Int} : isT "int" (tyName (.int b)) = true := by
  show isT "int" "int" = true
  decide
theorem isT_int_str {b : Str} : isT "int" (tyName (.str b)) = false := by
  show isT "int" "str" = false
  decide
theorem isT_int_list {b : List PyData} : isT "int" (tyName (.list b)) = false := by
  show isT "int" "list" = false
  decide
theorem isT_int_tuple {b : List PyData} : isT "int" (tyName (.tuple b)) = false := by
  show isT "int" "tuple" = false
  decide
theorem isT_int_num {b : Rat} : isT "int" (tyName (numD b)) = false := by
  show isT "int" "tuple" = false
  decide
theorem isT_bool_NoneType : isT "bool" (tyName (.none)) = false := by
  show isT "bool" "NoneType" = false
  decide
theorem isT_bool_bool {b : Bool} : isT "bool" (tyName (.bool b)) = true := by
  show isT "bool" "bool" = true
  decide
theorem isT_bool_int {b : Int} : isT "bool" (tyName (.int b)) = false := by
  show isT "bool" "int" = false
  decide
theorem isT_bool_str {b : Str} : isT "bool" (tyName (.str b)) = false := by
  show isT "bool" "str" = false
  decide
theorem isT_bool_list {b : List PyData} : isT "bool" (tyName (.list b)) = false := by
  show isT "bool" "list" = false
  decide
theorem isT_bool_tuple {b : List PyData} : isT "bool" (tyName (.tuple b)) = false := by
  show isT "bool" "tuple" = false
  decide
theorem isT_bool_num {b : Rat} : isT "bool" (tyName (numD b)) = false := by
  show isT "bool" "tuple" = false
  decide
theorem isT_tuple_NoneType : isT "tuple" (tyName (.none)) = false := by
  show isT "tuple" "NoneType" = false
  decide
theorem isT_tuple_bool {b : Bool} : isT "tuple" (tyName (.bool b)) = false := by
  show isT "tuple" "bool" = false
  decide
theorem isT_tuple_int {b : Int} : isT "tuple" (tyName (.int b)) = false := by
  show isT "tuple" "int" = false
  decide
theorem isT_tuple_str {b : Str} : isT "tuple" (tyName (.str b)) = false := by
  show isT "tuple" "str" = false
  decide
theorem isT_tuple_list {b : List PyData} : isT "tuple" (tyName (.list b)) = false := by
  show isT "tuple" "list" = false
  decide
theorem isT_tuple_tuple {b : List PyData} : isT "tuple" (tyName (.tuple b)) = true := by
  show isT "tuple" "tuple" = true
  decide
theorem isT_tuple_num {b : Rat} : isT "tuple" (tyName (numD b)) = true := by
  show isT "tuple" "tuple" = true
  decide
theorem isT_str_NoneType : isT "str" (tyName (.none)) = false := by
  show isT "str" "NoneType" = false
  decide
theorem isT_str_bool {b : Bool} : isT "str" (tyName (.bool b)) = false := by
  show isT "str" "bool" = false
  decide
theorem isT_str_int {b : Int} : isT "str" (tyName (.int b)) = false := by
  show isT "str" "int" = false
  decide
theorem isT_str_str {b : Str} : isT "str" (tyName (.str b)) = true := by
  show isT "str" "str" = true
  decide
theorem isT_str_list {b : List PyData} : isT "str" (tyName (.list b)) = false := by
  show isT "str" "list" = false
  decide
theorem isT_str_tuple {b : List PyData} : isT "str" (tyName (.tuple b)) = false := by
  show isT "str" "tuple" = false
  decide
theorem isT_str_num {b : Rat} : isT "str" (tyName (numD b)) = false := by
  show isT "str" "tuple" = false
  decide
theorem isT_list_NoneType : isT "list" (tyName (.none)) = false := by
  show isT "list" "NoneType" = false
  decide
theorem isT_list_bool {b : Bool} : isT "list" (tyName (.bool b)) = false := by
  show isT "list" "bool" = false
  decide
theorem isT_list_int {b : Int} : isT "list" (tyName (.int b)) = false := by
  show isT "list" "int" = false
  decide
theorem isT_list_str {b : Str} : isT "list" (tyName (.str b)) = false := by
  show isT "list" "str" = false
  decide
theorem isT_list_list {b : List PyData} : isT "list" (tyName (.list b)) = true := by
  show isT "list" "list" = true
  decide
theorem isT_list_tuple {b : List PyData} : isT "list" (tyName (.tuple b)) = false := by
  show isT "list" "tuple" = false
  decide
theorem isT_list_num {b : Rat} : isT "list" (tyName (numD b)) = false := by
  show isT "list" "tuple" = false
  decide
theorem isT_int_dict {b : List (PyData × PyData)} : isT "int" (tyName (.dict b)) = false := by
  show isT "int" "dict" = false
  decide
theorem isT_bool_dict {b : List (PyData × PyData)} : isT "bool" (tyName (.dict b)) = false := by
  show isT "bool" "dict" = false
  decide
theorem isT_tuple_dict {b : List (PyData × PyData)} : isT "tuple" (tyName (.dict b)) = false := by
  show isT "tuple" "dict" = false
  decide
theorem isT_str_dict {b : List (PyData × PyData)} : isT "str" (tyName (.dict b)) = false := by
  show isT "str" "dict" = false
  decide
theorem isT_list_dict {b : List (PyData × PyData)} : isT "list" (tyName (.dict b)) = false := by
  show isT "list" "dict" = false
  decide
end DL

namespace DM
/-! whole roots -/
theorem newton {n s : Int} (hn : 0 ≤ n) (hs : 0 < s) : n < ((s + n / s) / 2 + 1) * ((s + n / s) / 2 + 1) := by
  have h1 : n < (n / s + 1) * s := Int.lt_ediv_add_one_mul_self n hs
  have hq : 0 ≤ n / s := Int.ediv_nonneg hn (by omega)
  generalize n / s = q at *
  have h2 : s + q + 1 ≤ 2 * ((s + q) / 2 + 1) := by omega
  generalize (s + q) / 2 + 1 = t at *
  have h3 : (s + q + 1) * (s + q + 1) ≤ (2 * t) * (2 * t) := Int.mul_le_mul h2 h2 (by omega) (by omega)
  have h4 : 0 ≤ (s - (q + 1)) * (s - (q + 1)) := by
    rcases Int.le_total 0 (s - (q + 1)) with z | z
    · exact Int.mul_nonneg z z
    · exact Int.mul_nonneg_of_nonpos_of_nonpos z z
  grind
theorem newton_end {n s : Int} (hs : 0 < s) (h : s ≤ (s + n / s) / 2) : s * s ≤ n := by
  have h1 : s ≤ n / s := by omega
  exact (Int.le_ediv_iff_mul_le hs).mp h1
theorem le_sq {r : Int} (h : 0 < r) : r ≤ r * r := by
  have := Int.mul_le_mul_of_nonneg_left (show 1 ≤ r by omega) (show 0 ≤ r by omega)
  rw [Int.mul_one] at this
  exact this
theorem rt_uniq {n r t : Int} (hr : 0 ≤ r) (ht : 0 ≤ t) (h1 : r * r ≤ n) (h2 : n < (r + 1) * (r + 1)) (h3 : t * t ≤ n) (h4 : n < (t + 1) * (t + 1)) : r = t := by
  rcases Int.lt_trichotomy r t with z | z | z
  · have : (r + 1) * (r + 1) ≤ t * t := Int.mul_le_mul (by omega) (by omega) (by omega) (by omega)
    omega
  · exact z
  · have : (t + 1) * (t + 1) ≤ r * r := Int.mul_le_mul (by omega) (by omega) (by omega) (by omega)
    omega
theorem sq_lt_sq {r t : Int} (h1 : 0 ≤ r) (h : r * r < t * t) (ht : 0 ≤ t) : r < t := by
  apply Classical.byContradiction
  intro z
  have : t * t ≤ r * r := Int.mul_le_mul (by omega) (by omega) (by omega) (by omega)
  omega
theorem sq_succ {r : Int} (h : 0 ≤ r) : r * r < (r + 1) * (r + 1) := by
  have : (r + 1) * (r + 1) = r * r + 2 * r + 1 := by grind
  omega
theorem rt_sq {r t : Int} (hr : 0 ≤ r) (ht : 0 ≤ t) (h1 : t * t ≤ r * r) (h2 : r * r < (t + 1) * (t + 1)) : t = r :=
  rt_uniq ht hr h1 h2 (Int.le_refl _) (sq_succ hr)
/-! roots of numbers -/
theorem rat_sq_num (r : Rat) : (r * r).num = r.num * r.num := by
  have := Rat.num_pow r 2
  rw [Rat.pow_succ, Rat.pow_one] at this
  rw [this]
  show r.num ^ 2 = _
  rw [Int.pow_succ, Int.pow_succ, Int.pow_zero, Int.one_mul]
theorem rat_sq_den (r : Rat) : (r * r).den = r.den * r.den := by
  have := Rat.den_pow r 2
  rw [Rat.pow_succ, Rat.pow_one] at this
  rw [this, Nat.pow_succ, Nat.pow_succ, Nat.pow_zero, Nat.one_mul]
theorem rat_sq_inj {r s : Rat} (hr : 0 ≤ r) (hs : 0 ≤ s) (h : r * r = s * s) : r = s := by
  have h1 : r.num * r.num = s.num * s.num := by rw [← rat_sq_num, ← rat_sq_num, h]
  have h2 : r.den * r.den = s.den * s.den := by rw [← rat_sq_den, ← rat_sq_den, h]
  have a := Rat.num_nonneg.mpr hr
  have b := Rat.num_nonneg.mpr hs
  refine Rat.ext (rt_sq b a (by omega) (by rw [← h1]; exact sq_succ a)) ?_
  have := rt_sq (r := (s.den : Int)) (t := (r.den : Int)) (by omega) (by omega) (by rw [← Int.natCast_mul, ← Int.natCast_mul, h2]; omega)
    (by rw [← Int.natCast_mul, ← h2, Int.natCast_mul]; exact sq_succ (by omega))
  omega
open Classical in
noncomputable def rt (u : Rat) : Option Rat := if h : ∃ r : Rat, 0 ≤ r ∧ r * r = u then some (Classical.choose h) else none
theorem rt_some {u r : Rat} (h : rt u = some r) : 0 ≤ r ∧ r * r = u := by
  unfold rt at h
  split at h
  · rename_i z
    cases h
    exact Classical.choose_spec z
  · cases h
theorem rt_of {u r : Rat} (h0 : 0 ≤ r) (h : r * r = u) : rt u = some r := by
  have z : ∃ r : Rat, 0 ≤ r ∧ r * r = u := ⟨r, h0, h⟩
  unfold rt
  rw [dif_pos z]
  obtain ⟨a, b⟩ := Classical.choose_spec z
  rw [rat_sq_inj a h0 (b.trans h.symm)]
theorem rt_none {u : Rat} (h : rt u = none) (r : Rat) (h0 : 0 ≤ r) : r * r ≠ u := fun e => by
  rw [rt_of h0 e] at h
  cases h
/-- the number of whole roots -/
theorem rt_mk {u : Rat} {t b : Int} (ht : 0 ≤ t) (hb : 0 ≤ b) (h1 : t * t = u.num) (h2 : b * b = u.den) : ∃ r : Rat, rt u = some r ∧ r.num = t ∧ (r.den : Int) = b := by
  obtain ⟨m, rfl⟩ := Int.eq_ofNat_of_zero_le ht
  obtain ⟨n, rfl⟩ := Int.eq_ofNat_of_zero_le hb
  have hn : n ≠ 0 := fun e => by
    subst e
    have := u.den_pos
    simp at h2
    omega
  have hc : Nat.Coprime m n := by
    have h3 : Nat.Coprime (m * m) (n * n) := by
      have := u.reduced
      rw [← h1] at this
      have e : u.den = n * n := by rw [← Int.natCast_mul] at h2; omega
      rw [e] at this
      rw [← Int.natCast_mul, Int.natAbs_natCast] at this
      exact this
    exact Nat.Coprime.coprime_mul_left (Nat.Coprime.coprime_mul_left_right h3)
  let r : Rat := ⟨m, n, hn, by rw [Int.natAbs_natCast]; exact hc⟩
  have hr0 : 0 ≤ r := Rat.num_nonneg.mp (show (0 : Int) ≤ (m : Int) by omega)
  have hr : r * r = u := by
    refine Rat.ext ?_ ?_
    · rw [rat_sq_num]
      exact h1
    · rw [rat_sq_den]
      have e : ((n * n : Nat) : Int) = (u.den : Int) := by rw [Int.natCast_mul]; exact h2
      show n * n = u.den
      exact Int.ofNat.inj e
  exact ⟨r, rt_of hr0 hr, rfl, rfl⟩
theorem rt_num {u r : Rat} (h : rt u = some r) : 0 ≤ r.num ∧ r.num * r.num = u.num ∧ (r.den : Int) * r.den = u.den := by
  obtain ⟨h0, e⟩ := rt_some h
  refine ⟨Rat.num_nonneg.mpr h0, ?_, ?_⟩
  · rw [← rat_sq_num, e]
  · rw [← Int.natCast_mul, ← rat_sq_den, e]
theorem Bd.rt {n : Nat} {u r : Rat} (h : Bd n u) (e : rt u = some r) : Bd n r := by
  obtain ⟨h0, h1, h2⟩ := rt_num e
  have hd := r.den_pos
  constructor
  · refine Nat.lt_of_le_of_lt ?_ h.1
    rw [← h1, Int.natAbs_mul]
    rcases Nat.eq_zero_or_pos r.num.natAbs with z | z
    · omega
    · exact Nat.le_mul_of_pos_left _ z
  · refine Nat.lt_of_le_of_lt ?_ h.2
    have : r.den * r.den = u.den := by rw [← Int.natCast_mul] at h2; omega
    rw [← this]
    exact Nat.le_mul_of_pos_left _ hd
end DM
namespace DL
open PySem PySem.Spec L2 DM
def f_side : FP := fun ds Q => ∃ n : Int, ds = [.int n] ∧ (0 ≤ n ∧ n.natAbs < 2 ^ 8000) ∧ ∀ r : Int, 0 ≤ r → r * r ≤ n → n < (r + 1) * (r + 1) → Q (.d (.int r))
theorem fm_side : FMono f_side := ⟨fun ds Q Q' hq ⟨n, e, p, h⟩ => ⟨n, e, p, fun r a b c => hq _ (h r a b c)⟩⟩
theorem ln_side : ∀ ds Q, f_side ds Q → ds.length = 1 := fun ds Q ⟨n, e, _⟩ => by rw [e]; rfl
instance : FMono f_side := fm_side
theorem ap_side {n : Int} {Q : Res → Prop} : f_side [.int n] Q = ((0 ≤ n ∧ n.natAbs < 2 ^ 8000) ∧ ∀ r : Int, 0 ≤ r → r * r ≤ n → n < (r + 1) * (r + 1) → Q (.d (.int r))) := propext ⟨fun ⟨m, e, p, q⟩ => by
  cases e
  exact ⟨p, q⟩, fun ⟨p, q⟩ => ⟨n, rfl, p, q⟩⟩
def optD : Option Rat → PyData
  | none => .none
  | some r => numD r
noncomputable def f_root : FP := fn1 numD (Bd 8000) (fun u => optD (rt u))
instance : FMono f_root := fm1
theorem ap_root {u : Rat} {Q : Res → Prop} : f_root [numD u] Q = (Bd 8000 u ∧ Q (.d (optD (rt u)))) := fn1_ap num_inj
/-- what both roots' defs do behind the whole roots -/
theorem root_end {u : Rat} {t b : Int} {Q : PyData → Prop} (h : Q (optD (rt u))) (ht : 0 ≤ t) (t1 : t * t ≤ u.num) (t2 : u.num < (t + 1) * (t + 1)) (hb : 0 ≤ b) (b1 : b * b ≤ u.den) (b2 : (u.den : Int) < (b + 1) * (b + 1)) :
    (t * t = u.num ∧ b * b = u.den → Q (.tuple [.int t, .int b])) ∧ (¬ (t * t = u.num ∧ b * b = u.den) → Q .none) := by
  constructor
  · rintro ⟨e1, e2⟩
    obtain ⟨r, e, h1, h2⟩ := rt_mk ht hb e1 e2
    rw [e] at h
    have : optD (some r) = PyData.tuple [.int t, .int b] := by
      show numD r = _
      unfold numD
      rw [h1, h2]
    rw [← this]
    exact h
  · intro hn
    cases e : rt u with
    | none =>
      rw [e] at h
      exact h
    | some r =>
      exfalso
      obtain ⟨h0, h1, h2⟩ := rt_num e
      have e1 := rt_sq (r := r.num) (t := t) h0 ht (by omega) (by omega)
      have e2 := rt_sq (r := (r.den : Int)) (t := b) (by omega) hb (by omega) (by omega)
      exact hn ⟨by rw [e1]; exact h1, by rw [e2]; exact h2⟩
theorem bits_bound (n : Int) : n.natAbs < 2 ^ (Builtin.Int.intBits n) := by
  unfold Builtin.Int.intBits
  split
  · rename_i h
    have : n = 0 := by simpa using h
    subst this
    decide
  · rename_i h
    have h0 : n.natAbs ≠ 0 := by
      intro e
      exact h (by simp; omega)
    exact (Nat.log2_lt h0).mp (Nat.lt_succ_self _)
theorem bits_le {n : Int} {k : Nat} (h : n.natAbs < 2 ^ k) (h0 : n ≠ 0) : Builtin.Int.intBits n ≤ k := by
  unfold Builtin.Int.intBits
  rw [if_neg (by simpa using h0)]
  have : n.natAbs.log2 < k := (Nat.log2_lt (by omega)).mpr h
  omega
theorem sqn {u : Rat} : PyData.tuple [.int (u.num * u.num), .int ((u.den : Int) * u.den)] = numD (u * u) := by
  unfold numD
  rw [rat_sq_num, rat_sq_den, Int.natCast_mul]
theorem num_negd {u : Rat} : PyData.tuple [.int (0 - u.num), .int (u.den : Int)] = numD (-u) := by
  unfold numD
  rw [Rat.neg_num, Rat.neg_den, Int.zero_sub]
theorem num_zero : PyData.tuple [.int 0, .int 1] = numD 0 := rfl
theorem num_one : PyData.tuple [.int 1, .int 1] = numD 1 := rfl
theorem bd_zero : Bd 1 0 := ⟨by decide, by decide⟩
theorem bd_one : Bd 1 1 := ⟨by decide, by decide⟩
theorem tru_optD {u : Option Rat} : isNone (optD u) = u.isNone := by cases u <;> rfl
end DL

namespace DL
open PySem PySem.Spec L2 DM
/-! ### calls by keywords -/
section
variable {K : Fg} {x qual : Str} {params : Arguments} {body : List Stmt} {scope : Scope} {dvs : List V} {kws : List (Str × V)} {f : Addr} {fd : FuncData} {ps : List Str}
/-- some values by their places, the others by keywords; there are defaults -/
theorem kb1 (F : FunD K x qual params body scope dvs kws f fd) (n : Nat) (ks : List Str) (hd : dvs ≠ [])
    (h : ∀ (T : Addr) (kV doc pm : Value) (an : Option Addr) (cdv ct : Value) (us its ws : List Value), us.length = n → its.length = dvs.length → ws.length = ks.length →
      ∃ k, bindArgs (PySem.W.fnOf x qual params body scope (.ref T) kV doc pm an cdv ct) ⟨us, ks.zip ws⟩ = seqItems? (.ref T) >>= k ∧ k (some its.toArray) = pure (ps.zip (us ++ ws))) :
    KBn K fd ps n ks (fun us ws => us ++ ws) (fun vs zs => vs ++ zs) := by
  obtain ⟨oc, od, dV, kV, doc, pm, an, cdv, ct, osl, rfl, lk, hcd, hD, hK⟩ := F.ex
  rcases hD with ⟨e, _⟩ | ⟨_, T, o, its, m, rfl, lT, oT, rT⟩
  · exact absurd e hd
  · refine ⟨fun s us ws X l1 l2 => ?_, fun r1 r2 => r1.append r2⟩
    obtain ⟨k, e1, e2⟩ := h T kV doc pm an cdv ct us its ws l1 rT.length.symm l2
    refine BindsTo.of_looks fun M => ?_
    rw [e1]
    exact looks_items X lT oT (.of_pure e2)
end
section
variable {X : Cx} {Z : Ent} {pos : Pos}
structure Dk (X : Cx) (Z : Ent) (ks : List Keyword) (t : DL') : Prop where
  run : PK X ks (lA X.K Z t)
  mono : ∀ (δ : DSt) (Q Q' : List PyData → DSt → Prop), (∀ d δ', Q d δ' → Q' d δ') → t δ Q → t δ Q'
theorem pk_imp {ks : List Keyword} {t t' : TA} (h : PK X ks t) (i : ∀ σ H Q, t' σ H Q → t σ H Q) : PK X ks t' := ⟨fun p pins s σ H Q I h' => h.run p pins s σ H Q I (i σ H Q h')⟩
theorem dk_nil : Dk X Z [] dNil := ⟨pk_imp pk_nil fun σ H Q ⟨Hs, δ, R, q⟩ => q [] Hs H (Same.refl _) R .nil, fun δ Q Q' hq h => hq _ _ h⟩
theorem dk_cons {nm : Option Str} {e : Expr} {kpos : Pos} {ks : List Keyword} {t : DE} {r : DL'} (h : De X Z e t) (hr : Dk X Z ks r) : Dk X Z (⟨nm, e, kpos⟩ :: ks) (dCons t r) := by
  refine ⟨pk_imp (pk_cons h.run hr.run) fun σ H Q ⟨Hs, δ, R, q⟩ => ⟨Hs, δ, R, h.mono _ _ _ (fun d δ1 q v Hs1 H1 s1 R1 dp => ⟨Hs1, δ1, R1, hr.mono _ _ _ (fun ds δ2 q vs Hs2 H2 s2 R2 dps => ?_) q⟩) q⟩,
    fun δ Q Q' hq q => h.mono _ _ _ (fun _ _ z => hr.mono _ _ _ (fun _ _ z => hq _ _ z) z) q⟩
  exact q (v :: vs) Hs2 H2 (s1.trans s2) R2 (.cons (dp.up s2) dps)
/-- f(e, .., k = v, ..): gD puts the values in the parameters' order -/
def dCallN (f : FP) (n m : Nat) (gD : List PyData → List PyData → List PyData) (t tk : DL') : DE := fun δ Q => t δ fun ds δ1 => tk δ1 fun es δ2 => ds.length = n ∧ es.length = m ∧ f (gD ds es) fun r => Q (asD r) δ2
variable {k n : Nat} {g : Addr} {fd : FuncData} {ps ks : List Str} {f : FP} {x : Str} {e : Expr} {es : List Expr} {kws : List Keyword} {t tk : DL'} {p : Pos} {gv : List Value → List Value → List Value} {gV : List V → List V → List V} {gD : List PyData → List PyData → List PyData}
theorem de_callN (F : FnOk X.prog X.w X.K X.mg X.base CX0 k g fd ps (spP X.K f)) (fm : FMono f) (hr : Room k X.A) (hg : Gl X x) (hm : X.mg x = some (.ref g)) (hk : PySem.W.keepIn X.K (.ref g) = true) (hb : KBn X.K fd ps n ks gv gV)
    (hG : ∀ H vs us ds es, DpAll X.K H vs ds → DpAll X.K H us es → DpAll X.K H (gV vs us) (gD ds es)) (ha : Da X Z (e :: es) t) (hkw : Dk X Z kws tk)
    (hall : (backToKw pos (keywordEach kws X.env)).all (·.1.isSome) = true := by rfl) (hks : (backToKw pos (keywordEach kws X.env)).filterMap (·.1) = ks := by rfl)
    (hdb : (x == ("__debug__" : Str)) = false := by decide) (he : starEach (e :: es) X.env = (false, eval e X.env) :: starEach es X.env := by rfl)
    (hpl : ((backTo pos (starEach (e :: es) X.env)).any (·.1) || (backToKw pos (keywordEach kws X.env)).any (·.1.isNone)) = false := by rfl) :
    De X Z (.Call (.Name x p) (e :: es) kws pos) (dCallN f n ks.length gD t tk) := by
  refine ⟨pe_imp (pe_callN F hr hg hm hk hb pass0 ha.run hkw.run hall hks hdb he hpl) fun σ H Q ⟨Hs, δ, R, q⟩ => ⟨Hs, δ, R, ha.mono _ _ _ (fun ds δ1 q vs Hs1 H1 s1 R1 dps => ⟨Hs1, δ1, R1, hkw.mono _ _ _ (fun es δ2 q us Hs2 H2 s2 R2 dus => ?_) q⟩) q⟩,
    fun δ Q Q' hq q => ha.mono _ _ _ (fun ds δ' z => hkw.mono _ _ _ (fun es δ2 z => ⟨z.1, z.2.1, fm.m _ _ _ (fun r z => hq _ _ z) z.2.2⟩) z) q⟩
  refine ⟨by rw [dps.len]; exact q.1, by rw [dus.len]; exact q.2.1, ?_⟩
  have := call_run (dvs := []) (dd := []) fm (fun _ => .nil) R2 (hG _ _ _ _ _ (dps.up s2) dus) (Q := Q) (fm.m _ _ _ (fun r q v Hs3 H3 s3 R3 c => ?_) (by rw [List.append_nil]; exact q.2.2))
  · rw [List.append_nil] at this
    exact this
  · cases r with
    | d d => exact q v Hs3 H3 ((s1.trans s2).trans s3) R3 c
    | o xs =>
      obtain ⟨Hs4, s4, R4, dp⟩ := FrO.share R3 c
      exact q v Hs4 H3 (((s1.trans s2).trans s3).trans s4) R4 dp
instance {l l' : DL'} [FMono f] [LMono l] [LMono l'] {m : Nat} : EMono (dCallN f n m gD l l') := ⟨fun δ Q Q' hq q => LMono.m (t := l) _ _ _ (fun ds δ1 z => LMono.m (t := l') _ _ _ (fun es δ2 z => ⟨z.1, z.2.1, FMono.m (f := f) _ _ _ (fun r z => hq _ _ z) z.2.2⟩) z) q⟩
end
/-! ### amounts -/
def f_plus : FP := fn2 numD numD (fun u v => Bd 4000 u ∧ Bd 4000 v) (fun u v => numD (u + v))
def f_minus : FP := fn2 numD numD (fun u v => Bd 4000 u ∧ Bd 4000 v) (fun u v => numD (u - v))
def f_times : FP := fn2 numD numD (fun u v => Bd 4000 u ∧ Bd 4000 v) (fun u v => numD (u * v))
def f_over : FP := fn2 numD numD (fun u v => v ≠ 0 ∧ Bd 4000 u ∧ Bd 4000 v) (fun u v => numD (u / v))
def f_opp : FP := fn1 numD (fun _ => True) (fun u => numD (-u))
instance : FMono f_plus := fm2
instance : FMono f_minus := fm2
instance : FMono f_times := fm2
instance : FMono f_over := fm2
instance : FMono f_opp := fm1
theorem ap_plus {u v : Rat} {Q : Res → Prop} : f_plus [numD u, numD v] Q = ((Bd 4000 u ∧ Bd 4000 v) ∧ Q (.d (numD (u + v)))) := fn2_ap num_inj num_inj
theorem ap_minus {u v : Rat} {Q : Res → Prop} : f_minus [numD u, numD v] Q = ((Bd 4000 u ∧ Bd 4000 v) ∧ Q (.d (numD (u - v)))) := fn2_ap num_inj num_inj
theorem ap_times {u v : Rat} {Q : Res → Prop} : f_times [numD u, numD v] Q = ((Bd 4000 u ∧ Bd 4000 v) ∧ Q (.d (numD (u * v)))) := fn2_ap num_inj num_inj
theorem ap_over {u v : Rat} {Q : Res → Prop} : f_over [numD u, numD v] Q = ((v ≠ 0 ∧ Bd 4000 u ∧ Bd 4000 v) ∧ Q (.d (numD (u / v)))) := fn2_ap num_inj num_inj
theorem ap_opp {u : Rat} {Q : Res → Prop} : f_opp [numD u] Q = (True ∧ Q (.d (numD (-u)))) := fn1_ap num_inj
theorem dI_add (u v : Rat) : Rat.divInt (u.num * v.den + v.num * u.den) ((u.den : Int) * v.den) = u + v := (add_divInt u v).symm
theorem dI_sub (u v : Rat) : Rat.divInt (u.num * v.den - v.num * u.den) ((u.den : Int) * v.den) = u - v := (sub_divInt u v).symm
theorem dI_mul (u v : Rat) : Rat.divInt (u.num * v.num) ((u.den : Int) * v.den) = u * v := (mul_divInt u v).symm
theorem dI_one (a : Int) : Rat.divInt a 1 = (a : Rat) := Rat.num_divInt_den (a : Rat)
theorem dI_div (u v : Rat) : Rat.divInt (u.num * v.den) ((u.den : Int) * v.num) = u / v := (div_divInt u v).symm
/-- what the rules ask of parts of numbers -/
theorem mul_nd {m n : Nat} {u v : Rat} (hu : Bd m u) (hv : Bd n v) (h : m + n ≤ 900000) : CMulW u.num v.den := mulW hu.1 (by rw [Int.natAbs_natCast]; exact hv.2) h
theorem mul_nn {m n : Nat} {u v : Rat} (hu : Bd m u) (hv : Bd n v) (h : m + n ≤ 900000) : CMulW u.num v.num := mulW hu.1 hv.1 h
theorem mul_dd {m n : Nat} {u v : Rat} (hu : Bd m u) (hv : Bd n v) (h : m + n ≤ 900000) : CMulW (u.den : Int) v.den := mulW (by rw [Int.natAbs_natCast]; exact hu.2) (by rw [Int.natAbs_natCast]; exact hv.2) h
theorem mul_dn {m n : Nat} {u v : Rat} (hu : Bd m u) (hv : Bd n v) (h : m + n ≤ 900000) : CMulW (u.den : Int) v.num := mulW (by rw [Int.natAbs_natCast]; exact hu.2) hv.1 h
theorem dd_lt {m n : Nat} {u v : Rat} (hu : Bd m u) (hv : Bd n v) (h : m + n ≤ 9000) : ((u.den : Int) * v.den).natAbs < 2 ^ 9000 := Nat.lt_of_lt_of_le (nat_den hu hv) (Nat.pow_le_pow_right (by omega) h)
theorem dn_lt {m n : Nat} {u v : Rat} (hu : Bd m u) (hv : Bd n v) (h : m + n ≤ 9000) : ((u.den : Int) * v.num).natAbs < 2 ^ 9000 := by
  rw [Int.natAbs_mul, Int.natAbs_natCast]
  exact Nat.lt_of_lt_of_le (mul_lt_pow hu.2 hv.1) (Nat.pow_le_pow_right (by omega) h)
theorem num_ne {v : Rat} (h : v ≠ 0) : v.num ≠ 0 := fun e => h (Rat.num_eq_zero.mp e)
/-- is the found number the due one -/
def f_iswhole : FP := fn1 PyData.int (fun _ => True) (fun _ => .bool true)
theorem ap_iswhole {i : Int} {Q : Res → Prop} : f_iswhole [.int i] Q = (True ∧ Q (.d (.bool true))) := fn1_ap int_inj
instance : FMono f_iswhole := fm1
def f_is : FP := fn2 numD numD (fun _ _ => True) (fun u v => .bool (decide (u = v)))
theorem ap_is {u v : Rat} {Q : Res → Prop} : f_is [numD u, numD v] Q = (True ∧ Q (.d (.bool (decide (u = v))))) := fn2_ap num_inj num_inj
instance : FMono f_is := fm2
end DL

namespace DL
open PySem PySem.Spec L2 DM
section
variable {X : Cx} {Z : Ent} {pos : Pos}
/-! ### in, not in -/
def seqOf : PyData → Option (List PyData)
  | .list xs => some xs
  | .tuple xs => some xs
  | _ => none
def rInn (neg : Bool) : D2 := fun d e Q => ∃ xs, seqOf e = some xs ∧ SeqAt.shaped d = true ∧ SeqAt.shaped e = true ∧ Q (.bool (if neg then !xs.any fun z => PyData.eqv z d else xs.any fun z => PyData.eqv z d))
theorem rInn_mono {neg : Bool} (d e : PyData) (Q Q' : PyData → Prop) (h : ∀ z, Q z → Q' z) (q : rInn neg d e Q) : rInn neg d e Q' := by
  obtain ⟨xs, a, b, c, q⟩ := q
  exact ⟨xs, a, b, c, h _ q⟩
instance {neg : Bool} : D2M (rInn neg) := ⟨rInn_mono⟩
def rInR (K : Fg) (neg : Bool) : R2 := fun x y H Q => ∃ d e xs, L2.Dp K H x d ∧ L2.Dp K H y e ∧ seqOf e = some xs ∧ SeqAt.shaped d = true ∧ SeqAt.shaped e = true ∧ Q (.bl (if neg then !xs.any fun z => PyData.eqv z d else xs.any fun z => PyData.eqv z d)) H
theorem op_inR (hu : X.A.units + 65 < cLine) : OpR X (compareOp .In) (rInR X.K false) := by
  intro pins s σ H x y v u Q I rx ry h
  obtain ⟨d, e, ds, hd, he, hq, sd, se, q⟩ := h
  obtain ⟨as, r1⟩ := L2.Dp.reads I d x v hd rx
  cases e with
  | list xs =>
    cases hq
    obtain ⟨bs, r2⟩ := L2.Dp.reads I (.list ds) y u he ry
    exact SeqAt.in_list_reads r2 r1 (SeqAt.canLay_of_shaped se) (SeqAt.canLay_of_shaped sd) (PyProof.Rows.room_in_shaped sd hu) ⟨.bl _, H, I, rfl, q⟩
  | tuple xs =>
    cases hq
    obtain ⟨bs, r2⟩ := L2.Dp.reads I (.tuple ds) y u he ry
    exact SeqAt.in_tuple_reads r2 r1 (SeqAt.canLay_of_shaped se) (SeqAt.canLay_of_shaped sd) (PyProof.Rows.room_in_shaped sd hu) ⟨.bl _, H, I, rfl, q⟩
  | _ => cases hq
theorem op_notinR (hu : X.A.units + 65 < cLine) : OpR X (compareOp .NotIn) (rInR X.K true) := by
  intro pins s σ H x y v u Q I rx ry h
  obtain ⟨d, e, ds, hd, he, hq, sd, se, q⟩ := h
  obtain ⟨as, r1⟩ := L2.Dp.reads I d x v hd rx
  cases e with
  | list xs =>
    cases hq
    obtain ⟨bs, r2⟩ := L2.Dp.reads I (.list ds) y u he ry
    exact SeqAt.notIn_list_reads r2 r1 (SeqAt.canLay_of_shaped se) (SeqAt.canLay_of_shaped sd) (PyProof.Rows.room_in_shaped sd hu) ⟨.bl _, H, I, rfl, q⟩
  | tuple xs =>
    cases hq
    obtain ⟨bs, r2⟩ := L2.Dp.reads I (.tuple ds) y u he ry
    exact SeqAt.notIn_tuple_reads r2 r1 (SeqAt.canLay_of_shaped se) (SeqAt.canLay_of_shaped sd) (PyProof.Rows.room_in_shaped sd hu) ⟨.bl _, H, I, rfl, q⟩
  | _ => cases hq
theorem units65 {k : Nat} {A : Around} (r : Room k A) : A.units + 65 < cLine := by have := r.un; omega
theorem od_in {k : Nat} (hr : Room k X.A) : OpD X Z (compareOp .In) (rInn false) :=
  ⟨⟨_, op_inR (units65 hr), fun d e x y Hs H σ δ Q R dx dy ⟨xs, a, b, c, q⟩ => ⟨d, e, xs, (R.up dx).lb b, (R.up dy).lb c, a, b, c, q _ Hs H (Same.refl _) R (.bl _)⟩⟩, rInn_mono⟩
theorem od_notin {k : Nat} (hr : Room k X.A) : OpD X Z (compareOp .NotIn) (rInn true) :=
  ⟨⟨_, op_notinR (units65 hr), fun d e x y Hs H σ δ Q R dx dy ⟨xs, a, b, c, q⟩ => ⟨d, e, xs, (R.up dx).lb b, (R.up dy).lb c, a, b, c, q _ Hs H (Same.refl _) R (.bl _)⟩⟩, rInn_mono⟩
theorem inn_t {neg : Bool} {d : PyData} {xs : List PyData} {Q : PyData → Prop} : rInn neg d (.tuple xs) Q = (SeqAt.shaped d = true ∧ SeqAt.shaped (.tuple xs) = true ∧ Q (.bool (if neg then !xs.any fun z => PyData.eqv z d else xs.any fun z => PyData.eqv z d))) := propext ⟨fun ⟨ys, e, r⟩ => by cases e; exact r, fun r => ⟨xs, rfl, r⟩⟩
theorem inn_l {neg : Bool} {d : PyData} {xs : List PyData} {Q : PyData → Prop} : rInn neg d (.list xs) Q = (SeqAt.shaped d = true ∧ SeqAt.shaped (.list xs) = true ∧ Q (.bool (if neg then !xs.any fun z => PyData.eqv z d else xs.any fun z => PyData.eqv z d))) := propext ⟨fun ⟨ys, e, r⟩ => by cases e; exact r, fun r => ⟨xs, rfl, r⟩⟩
/-! ### + of anything -/
def rCatS (K : Fg) : R2 := fun x y H Q => ∃ l b xs zs, x = .ref l ∧ y = .ref b ∧ SqL K H l xs ∧ SqL K H b zs ∧ xs.length + zs.length ≤ sizeLine ∧ ∀ p, H p = none → Q (.ref p) (upd H p (.lst (xs ++ zs)))
open PyProof.Rows in
theorem op_catS : OpR X (binaryOp .Add) (rCatS X.K) := by
  intro pins s σ H x y v u Q I rx ry h
  obtain ⟨l, b, xs, zs, rfl, rfl, hL, hB, hz, q⟩ := h
  cases rx
  cases ry
  obtain ⟨its, r, ⟨⟨cls, dd, data, sl⟩, n, ho, hc, _, hd⟩, _⟩ := I.list hL
  obtain ⟨its2, r2, ⟨⟨cls2, dd2, data2, sl2⟩, n2, ho2, hc2, _, hd2⟩, _⟩ := I.list hB
  simp only at hc hd hc2 hd2
  subst hc hd hc2 hd2
  have e : its.toArray ++ its2.toArray = (its ++ its2).toArray := by simp
  have l1 := r.length
  have l2 := r2.length
  refine concat_meets ⟨_, ho, rfl⟩ ⟨_, ho2, rfl⟩ noFill_list_add seq_list_add PySem.F.slot_list_add PySem.F.entry_list_add (PySem.F.args_list_add_2 _ _) (list_addW l b its.toArray its2.toArray n n2 dd dd2 sl sl2 (by simp; omega)) ⟨ho, ho2, ?_⟩
  rw [e]
  exact ⟨.ref _, _, I.lnew (t' := s.toks) (r.append r2) (by rw [List.length_append]; omega), rfl, q _ I.fresh⟩
def rAddA : D2 := fun d e Q => match d, e with
  | .int i, .int j => Q (.int (i + j))
  | .str a, .str b => a.length + b.length ≤ sizeLine ∧ Q (.str (a ++ b))
  | .list xs, .list ys => xs.length + ys.length ≤ sizeLine ∧ Q (.list (xs ++ ys))
  | .tuple xs, .tuple ys => xs ≠ [] ∧ xs.length + ys.length ≤ sizeLine ∧ Q (.tuple (xs ++ ys))
  | _, _ => False
theorem rAddA_mono (d e : PyData) (Q Q' : PyData → Prop) (h : ∀ z, Q z → Q' z) (q : rAddA d e Q) : rAddA d e Q' := by
  unfold rAddA at q ⊢
  split at q
  · exact h _ q
  · exact ⟨q.1, h _ q.2⟩
  · exact ⟨q.1, h _ q.2⟩
  · exact ⟨q.1, q.2.1, h _ q.2.2⟩
  · exact q
instance : D2M rAddA := ⟨rAddA_mono⟩
theorem od_addA : OpD X Z (binaryOp .Add) rAddA := by
  refine ⟨⟨_, op_add.or (op_add_str.or (op_catS.or op_catT)), fun d e x y Hs H σ δ Q R dx dy q => ?_⟩, rAddA_mono⟩
  unfold rAddA at q
  split at q
  · cases dx
    cases dy
    exact .inl ⟨_, _, rfl, rfl, q _ Hs H (Same.refl _) R (.int _)⟩
  · cases dx
    cases dy
    exact .inr (.inl ⟨_, _, rfl, rfl, q.1, q.2 _ Hs H (Same.refl _) R (.str _)⟩)
  · cases dx with
    | lst h1 a1 =>
      cases dy with
      | lst h2 a2 =>
        refine .inr (.inr (.inl ⟨_, _, _, _, rfl, rfl, R.sub.seq h1, R.sub.seq h2, by rw [a1.len, a2.len]; exact q.1, fun p np => ?_⟩))
        have s2 : ∀ ys, Same Hs (upd Hs p (.lst ys)) := fun _ => same_new (R.hsn np)
        exact q.2 _ _ _ (s2 _) (R.alloc np) (.lst (SqL.of upd_same) ((a1.up (s2 _)).app (a2.up (s2 _))))
  · cases dx with
    | tup h1 a1 =>
      cases dy with
      | tup h2 a2 =>
        refine .inr (.inr (.inr ⟨_, _, _, _, rfl, rfl, sqt_mono R.sub h1, sqt_mono R.sub h2, ?_, by rw [a1.len, a2.len]; exact q.2.1, fun e => ?_, fun _ p np => ?_⟩))
        · intro e
          subst e
          cases a1
          exact q.1 rfl
        · subst e
          cases a2
          have := q.2.2 _ Hs H (Same.refl _) R (.tup h1 (by rw [List.append_nil]; exact a1))
          exact this
        · have s2 : ∀ ys, Same Hs (upd Hs p (.tup ys)) := fun _ => same_new (R.hsn np)
          exact q.2.2 _ _ _ (s2 _) (R.alloc np) (.tup (SqT.of upd_same) ((a1.up (s2 _)).app (a2.up (s2 _))))
  · exact q.elim
theorem adA_i {i j : Int} {Q : PyData → Prop} : rAddA (.int i) (.int j) Q = Q (.int (i + j)) := rfl
theorem adA_s {a b : Str} {Q : PyData → Prop} : rAddA (.str a) (.str b) Q = (a.length + b.length ≤ sizeLine ∧ Q (.str (a ++ b))) := rfl
theorem adA_l {a b : List PyData} {Q : PyData → Prop} : rAddA (.list a) (.list b) Q = (a.length + b.length ≤ sizeLine ∧ Q (.list (a ++ b))) := rfl
theorem adA_t {a b : List PyData} {Q : PyData → Prop} : rAddA (.tuple a) (.tuple b) Q = (a ≠ [] ∧ a.length + b.length ≤ sizeLine ∧ Q (.tuple (a ++ b))) := rfl
/-! ### list(x) -/
def rListO : List PyData → (List PyData → Prop) → Prop := fun ds Q => match ds with
  | [.list xs] => Q xs
  | [.tuple xs] => Q xs
  | _ => False
def dListO (t : DL') : DL' := fun δ Q => t δ fun ds δ' => rListO ds fun xs => Q xs δ'
theorem lstO_l {a : List PyData} {Q : List PyData → Prop} : rListO [.list a] Q = Q a := rfl
theorem lstO_t {a : List PyData} {Q : List PyData → Prop} : rListO [.tuple a] Q = Q a := rfl
theorem lstO_n {u : Rat} {Q : List PyData → Prop} : rListO [numD u] Q = Q [.int u.num, .int (u.den : Int)] := rfl
theorem rListO_mono (ds : List PyData) (Q Q' : List PyData → Prop) (h : ∀ z, Q z → Q' z) (q : rListO ds Q) : rListO ds Q' := by
  unfold rListO at q ⊢
  split at q
  · exact h _ q
  · exact h _ q
  · exact q
instance {l : DL'} [LMono l] : LMono (dListO l) := ⟨fun δ Q Q' hq q => LMono.m (t := l) _ _ _ (fun ds δ' z => rListO_mono _ _ _ (fun _ z => hq _ _ z) z) q⟩
theorem do_list {e : Expr} {t : DL'} {p : Pos} (hg : Gl X "list") (hm : X.mg "list" = none) (hv : bootBuiltins "list" = some (.type "list")) (ha : Da X Z [e] t) (hn : ("list" : Str) ≠ "__name__" := by decide) (hdb : (("list" : Str) == ("__debug__" : Str)) = false := by decide)
    (he : starEach [e] X.env = (false, eval e X.env) :: starEach [] X.env := by rfl) (hpl : (backTo pos (starEach [] X.env)).any (·.1) = false := by rfl) : Do X Z (.Call (.Name "list" p) [e] [] pos) (dListO t) := by
  refine ⟨pe_imp (pe_callTy call_list_of hg hm hv ha.run hn hdb he hpl) fun σ H Q ⟨Hs, δ, R, q⟩ => ⟨Hs, δ, R, ha.mono _ _ _ (fun ds δ1 q vs Hs1 H1 s1 R1 dps => ?_) q⟩, fun δ Q Q' hq q => ha.mono _ _ _ (fun ds δ' z => rListO_mono _ _ _ (fun _ z => hq _ _ z) z) q⟩
  unfold rListO at q
  split at q
  · cases dps with
    | cons d1 d2 =>
      cases d2
      cases d1 with
      | lst hs ha => exact ⟨_, _, rfl, .inl (R1.sub.seq hs), fun l hl => q _ Hs1 _ s1 (R1.allocO hl) (FrO.new R1 hl ha)⟩
  · cases dps with
    | cons d1 d2 =>
      cases d2
      cases d1 with
      | tup hs ha => exact ⟨_, _, rfl, .inr (sqt_mono R1.sub hs), fun l hl => q _ Hs1 _ s1 (R1.allocO hl) (FrO.new R1 hl ha)⟩
  · exact q.elim
theorem strOk_of (s : String) : PyData.strOk (Str.ofString s) = true := by
  unfold PyData.strOk
  rw [Str.ofString_eq_toList, List.all_toArray, List.all_map, List.all_eq_true]
  intro c _
  have := c.valid
  simp only [Function.comp, decide_eq_true_eq]
  rcases this with h | h
  · have : c.toNat < 0xd800 := h
    omega
  · have : c.toNat < 0x110000 := h.2
    omega
theorem sh_str {s : String} : SeqAt.shaped (.str (Str.ofString s)) = true := by
  unfold SeqAt.shaped
  show (PyData.strOk (Str.ofString s) && decide (PyData.depth (.str (Str.ofString s)) ≤ 64)) = true
  rw [strOk_of]
  rfl
end
end DL

namespace DM
/-! headings of two whole numbers -/
def hdc (p q : Int) : Rat := Rat.divInt (q * q - p * p) (p * p + q * q)
def hds (p q : Int) : Rat := Rat.divInt (2 * p * q) (p * p + q * q)
theorem sq_nn (p : Int) : 0 ≤ p * p := by
  rcases Int.le_total 0 p with z | z
  · exact Int.mul_nonneg z z
  · exact Int.mul_nonneg_of_nonpos_of_nonpos z z
theorem sq_pos {p : Int} (h : p ≠ 0) : 0 < p * p := by
  have := sq_nn p
  have : p * p ≠ 0 := Int.mul_ne_zero h h
  omega
theorem two_pos {p q : Int} (h : p ≠ 0 ∨ q ≠ 0) : 0 < p * p + q * q := by
  have := sq_nn p
  have := sq_nn q
  rcases h with h | h
  · have := sq_pos h
    omega
  · have := sq_pos h
    omega
theorem hd_one {p q : Int} (h : p ≠ 0 ∨ q ≠ 0) : hdc p q * hdc p q + hds p q * hds p q = 1 := by
  have h0 := two_pos h
  unfold hdc hds
  rw [Rat.divInt_eq_div, Rat.divInt_eq_div]
  have hz : ((p * p + q * q : Int) : Rat) ≠ 0 := fun e => by
    have := Rat.intCast_eq_zero_iff.mp e
    omega
  simp only [Rat.intCast_sub, Rat.intCast_mul, Rat.intCast_add] at hz ⊢
  generalize (p : Rat) = a at *
  generalize (q : Rat) = b at *
  grind
theorem hd_bd {p q : Int} {k : Nat} (h : p ≠ 0 ∨ q ≠ 0) (hp : p.natAbs < 2 ^ k) (hq : q.natAbs < 2 ^ k) : Bd (2 * k + 1) (hdc p q) ∧ Bd (2 * k + 1) (hds p q) := by
  have h0 := two_pos h
  have e : (2 : Nat) ^ (2 * k + 1) = 2 * (2 ^ k * 2 ^ k) := by rw [Nat.pow_succ, Nat.two_mul, Nat.pow_add, Nat.mul_comm]
  have a1 : p.natAbs * p.natAbs < 2 ^ k * 2 ^ k := Nat.mul_lt_mul'' hp hp
  have a2 : q.natAbs * q.natAbs < 2 ^ k * 2 ^ k := Nat.mul_lt_mul'' hq hq
  have a3 : p.natAbs * q.natAbs < 2 ^ k * 2 ^ k := Nat.mul_lt_mul'' hp hq
  have b1 : (p * p).natAbs = p.natAbs * p.natAbs := Int.natAbs_mul _ _
  have b2 : (q * q).natAbs = q.natAbs * q.natAbs := Int.natAbs_mul _ _
  have b3 : (p * q).natAbs = p.natAbs * q.natAbs := Int.natAbs_mul _ _
  have b4 : (2 * p * q).natAbs = 2 * (p.natAbs * q.natAbs) := by rw [Int.mul_assoc, Int.natAbs_mul, b3]; rfl
  refine ⟨bd_divInt ?_ ?_ (by omega), bd_divInt ?_ ?_ (by omega)⟩
  · rw [e]; omega
  · rw [e]; omega
  · rw [e, b4]; omega
  · rw [e]; omega
/-- the whole root of a square -/
theorem rt_abs {u v : Rat} (h : u = v * v) : rt u = some (if 0 ≤ v then v else -v) := by
  by_cases z : 0 ≤ v
  · rw [if_pos z]
    exact rt_of z h.symm
  · rw [if_neg z]
    refine rt_of ?_ (by rw [h]; grind)
    grind
end DM
namespace DL
open PySem PySem.Spec L2 DM
def plD (p : Rat × Rat) : PyData := .tuple [numD p.1, numD p.2]
theorem pl_inj (x y : Rat × Rat) (h : plD x = plD y) : x = y := by
  unfold plD at h
  injection h with h
  injection h with h1 h2
  injection h2 with h2 _
  exact Prod.ext (num_inj _ _ h1) (num_inj _ _ h2)
def Bd2 (n : Nat) (p : Rat × Rat) : Prop := Bd n p.1 ∧ Bd n p.2
def f_less : FP := fn2 plD plD (fun p q => Bd2 1900 p ∧ Bd2 1900 q) (fun p q => plD (p.1 - q.1, p.2 - q.2))
def f_added : FP := fn2 plD plD (fun p q => Bd2 1900 p ∧ Bd2 1900 q) (fun p q => plD (p.1 + q.1, p.2 + q.2))
def f_scaled : FP := fn2 plD numD (fun p u => Bd2 1900 p ∧ Bd 1900 u) (fun p u => plD (p.1 * u, p.2 * u))
def f_dot : FP := fn2 plD plD (fun p q => Bd2 1900 p ∧ Bd2 1900 q) (fun p q => numD (p.1 * q.1 + p.2 * q.2))
def f_cross : FP := fn2 plD plD (fun p q => Bd2 1900 p ∧ Bd2 1900 q) (fun p q => numD (p.1 * q.2 - p.2 * q.1))
def f_turned : FP := fn2 plD plD (fun p q => Bd2 1900 p ∧ Bd2 1900 q) (fun p q => plD (p.1 * q.1 - p.2 * q.2, p.1 * q.2 + p.2 * q.1))
def f_left : FP := fn1 plD (fun p => True) (fun p => plD (-p.2, p.1))
noncomputable def f_dist : FP := fn2 plD plD (fun p q => Bd2 900 p ∧ Bd2 900 q) (fun p q => optD (rt ((p.1 - q.1) * (p.1 - q.1) + (p.2 - q.2) * (p.2 - q.2))))
instance : FMono f_less := fm2
instance : FMono f_added := fm2
instance : FMono f_scaled := fm2
instance : FMono f_dot := fm2
instance : FMono f_cross := fm2
instance : FMono f_turned := fm2
instance : FMono f_left := fm1
instance : FMono f_dist := fm2
section
variable {a b c d u : Rat} {Q : Res → Prop}
theorem ap_less : f_less [.tuple [numD a, numD b], .tuple [numD c, numD d]] Q = (((Bd 1900 a ∧ Bd 1900 b) ∧ Bd 1900 c ∧ Bd 1900 d) ∧ Q (.d (.tuple [numD (a - c), numD (b - d)]))) := fn2_ap (x := (a, b)) (y := (c, d)) pl_inj pl_inj
theorem ap_added : f_added [.tuple [numD a, numD b], .tuple [numD c, numD d]] Q = (((Bd 1900 a ∧ Bd 1900 b) ∧ Bd 1900 c ∧ Bd 1900 d) ∧ Q (.d (.tuple [numD (a + c), numD (b + d)]))) := fn2_ap (x := (a, b)) (y := (c, d)) pl_inj pl_inj
theorem ap_scaled : f_scaled [.tuple [numD a, numD b], numD u] Q = (((Bd 1900 a ∧ Bd 1900 b) ∧ Bd 1900 u) ∧ Q (.d (.tuple [numD (a * u), numD (b * u)]))) := fn2_ap (x := (a, b)) (y := u) pl_inj num_inj
theorem ap_dot : f_dot [.tuple [numD a, numD b], .tuple [numD c, numD d]] Q = (((Bd 1900 a ∧ Bd 1900 b) ∧ Bd 1900 c ∧ Bd 1900 d) ∧ Q (.d (numD (a * c + b * d)))) := fn2_ap (x := (a, b)) (y := (c, d)) pl_inj pl_inj
theorem ap_cross : f_cross [.tuple [numD a, numD b], .tuple [numD c, numD d]] Q = (((Bd 1900 a ∧ Bd 1900 b) ∧ Bd 1900 c ∧ Bd 1900 d) ∧ Q (.d (numD (a * d - b * c)))) := fn2_ap (x := (a, b)) (y := (c, d)) pl_inj pl_inj
theorem ap_turned : f_turned [.tuple [numD a, numD b], .tuple [numD c, numD d]] Q = (((Bd 1900 a ∧ Bd 1900 b) ∧ Bd 1900 c ∧ Bd 1900 d) ∧ Q (.d (.tuple [numD (a * c - b * d), numD (a * d + b * c)]))) := fn2_ap (x := (a, b)) (y := (c, d)) pl_inj pl_inj
theorem ap_left : f_left [.tuple [numD a, numD b]] Q = (True ∧ Q (.d (.tuple [numD (-b), numD a]))) := fn1_ap (x := (a, b)) pl_inj
theorem ap_dist : f_dist [.tuple [numD a, numD b], .tuple [numD c, numD d]] Q = (((Bd 900 a ∧ Bd 900 b) ∧ Bd 900 c ∧ Bd 900 d) ∧ Q (.d (optD (rt ((a - c) * (a - c) + (b - d) * (b - d)))))) := fn2_ap (x := (a, b)) (y := (c, d)) pl_inj pl_inj
end
/-! law helpers -/
def f_isplace : FP := fn2 plD plD (fun _ _ => True) (fun p q => .bool (decide (p.1 = q.1) && decide (p.2 = q.2)))
instance : FMono f_isplace := fm2
theorem ap_isplace {a b c d : Rat} {Q : Res → Prop} : f_isplace [.tuple [numD a, numD b], .tuple [numD c, numD d]] Q = (True ∧ Q (.d (.bool (decide (a = c) && decide (b = d))))) := fn2_ap (x := (a, b)) (y := (c, d)) pl_inj pl_inj
def prD (p : Int × Int) : PyData := .tuple [.int p.1, .int p.2]
def f_both : FB := bg1 2 PyData.int (fun w => 1 ≤ w ∧ w < 2 ^ 60) prD (fun w p => (p.1.natAbs : Int) ≤ w ∧ (p.2.natAbs : Int) ≤ w ∧ (p.1 ≠ 0 ∨ p.2 ≠ 0))
instance : BMono f_both := bm1
theorem both_at {xs : List PyData} {n : Nat} {w : Int} {Q : Res → List PyData → Prop} (hb : BagOk n xs) (hn : n + 2 ≤ mostDraws) (h1 : 1 ≤ w) (h2 : w < 2 ^ 60) (h : ∀ (p q : Int) xs', (p.natAbs : Int) ≤ w → (q.natAbs : Int) ≤ w → (p ≠ 0 ∨ q ≠ 0) → BagOk (n + 2) xs' → Q (.d (.tuple [.int p, .int q])) xs') : f_both xs [.int w] Q :=
  ⟨n, w, hb, hn, rfl, ⟨h1, h2⟩, fun p xs' e b => h p.1 p.2 xs' e.1 e.2.1 e.2.2 b⟩
def f_heading : FP := fn2 PyData.int PyData.int (fun p q => (p ≠ 0 ∨ q ≠ 0) ∧ p.natAbs < 2 ^ 64 ∧ q.natAbs < 2 ^ 64) (fun p q => plD (hdc p q, hds p q))
instance : FMono f_heading := fm2
theorem ap_heading {p q : Int} {Q : Res → Prop} : f_heading [.int p, .int q] Q = (((p ≠ 0 ∨ q ≠ 0) ∧ p.natAbs < 2 ^ 64 ∧ q.natAbs < 2 ^ 64) ∧ Q (.d (.tuple [numD (hdc p q), numD (hds p q)]))) := fn2_ap int_inj int_inj
def f_place : FB := bg0 8 plD (Bd2 30)
instance : BMono f_place := bm0
theorem place_at {xs : List PyData} {n : Nat} {Q : Res → List PyData → Prop} (hb : BagOk n xs) (hn : n + 8 ≤ mostDraws) (h : ∀ (x y : Rat) xs', Bd 30 x → Bd 30 y → BagOk (n + 8) xs' → Q (.d (.tuple [numD x, numD y])) xs') : f_place xs [] Q :=
  ⟨n, hb, hn, rfl, fun p xs' e b => h p.1 p.2 xs' e.1 e.2 b⟩
theorem num_absd {u : Rat} : PyData.tuple [.int (if u.num < 0 then -u.num else u.num), .int (u.den : Int)] = numD (if 0 ≤ u then u else -u) := by
  by_cases h : u.num < 0
  · have : ¬ 0 ≤ u := fun z => by
      have := Rat.num_nonneg.mpr z
      omega
    rw [if_pos h, if_neg this, ← num_negd, Int.zero_sub]
  · rw [if_neg h, if_pos (Rat.num_nonneg.mp (by omega))]
    rfl
theorem chr_inj : ∀ (a b : List Char), a.map Char.toNat = b.map Char.toNat → a = b
  | [], [], _ => rfl
  | [], _ :: _, h => nomatch h
  | _ :: _, [], h => nomatch h
  | a :: as, b :: bs, h => by
    simp only [List.map_cons, List.cons.injEq] at h
    rw [chr_inj as bs h.2, Char.toNat_inj.mp h.1]
theorem str_inj {a b : String} (h : Str.ofString a = Str.ofString b) : a = b := by
  rw [Str.ofString_eq_toList, Str.ofString_eq_toList] at h
  injection h with h
  have := chr_inj _ _ (by simpa using congrArg Array.toList h)
  exact String.toList_inj.mp this
theorem str_beq {a b : String} : (Str.ofString a == Str.ofString b) = (a == b) := by
  by_cases h : a = b
  · subst h
    rw [show (a == a) = true from beq_self_eq_true a]
    exact beq_self_eq_true (Str.ofString a)
  · have h1 : (a == b) = false := by simpa using h
    rw [h1]
    exact beq_eq_false_iff_ne.mpr fun e => h (str_inj e)
theorem num_flip {u : Rat} (h : 0 < u) : PyData.tuple [.int (u.den : Int), .int u.num] = numD (1 / u) := by
  have hn : 0 < u.num := by
    have h1 := Rat.num_nonneg.mpr (Rat.le_of_lt h)
    have h2 : u.num ≠ 0 := fun e => by rw [Rat.num_eq_zero.mp e] at h; exact absurd h (by decide)
    omega
  have e : (1 / u : Rat) = u⁻¹ := by grind
  rw [e]
  unfold numD
  have hne : u.num ≠ 0 := by omega
  rw [Rat.num_inv, Rat.den_inv, if_neg hne, Int.sign_eq_one_of_pos hn, Int.one_mul]
  congr 3
  congr 1
  omega
theorem optD_some {u : Rat} : optD (some u) = numD u := rfl
end DL

namespace DL
open PySem PySem.Spec L2 DM
section
variable {α β γ κ : Type}
theorem fn4_ap {a : α → PyData} {b : β → PyData} {c : γ → PyData} {d : κ → PyData} {pre : α → β → γ → κ → Prop} {g : α → β → γ → κ → PyData} (ia : ∀ x y, a x = a y → x = y) (ib : ∀ x y, b x = b y → x = y) (ic : ∀ x y, c x = c y → x = y) (id : ∀ x y, d x = d y → x = y) {x : α} {y : β} {z : γ} {u : κ} {Q : Res → Prop} : fn4 a b c d pre g [a x, b y, c z, d u] Q = (pre x y z u ∧ Q (.d (g x y z u))) := propext ⟨fun ⟨x', y', z', u', e, p, q⟩ => by
  injection e with e1 e2
  injection e2 with e2 e3
  injection e3 with e3 e4
  injection e4 with e4 _
  rw [ia _ _ e1, ib _ _ e2, ic _ _ e3, id _ _ e4]
  exact ⟨p, q⟩, fun ⟨p, q⟩ => ⟨x, y, z, u, rfl, p, q⟩⟩
end
theorem divInt_pos {a b : Int} (ha : 0 < a) (hb : 0 < b) : 0 < Rat.divInt a b := by
  have h1 : 0 ≤ Rat.divInt a b := (Rat.divInt_nonneg_iff_of_pos_right hb).mpr (by omega)
  have h2 : Rat.divInt a b ≠ 0 := fun e => by
    rw [Rat.divInt_eq_div] at e
    have hb' : (b : Rat) ≠ 0 := fun z => by
      have := Rat.intCast_eq_zero_iff.mp z
      omega
    have ha' : (a : Rat) ≠ 0 := fun z => by
      have := Rat.intCast_eq_zero_iff.mp z
      omega
    grind
  exact Rat.lt_of_le_of_ne h1 h2.symm
/-! ### constants of a module -/
def CstD (K : Fg) (mg : Str → Option Value) (x : Str) (d : PyData) : Prop := ∃ v u, mg x = some u ∧ RelV v u ∧ ∀ H, Dp K H v d
theorem de_globC {X : Cx} {Z : Ent} {pos : Pos} {x : Str} {d : PyData} (hg : Gl X x) (hc : CstD X.K X.mg x d) (hdb : (x == ("__debug__" : Str)) = false := by decide) : De X Z (.Name x pos) (dC d) := by
  obtain ⟨v, u, h1, h2, h3⟩ := hc
  exact de_glob hg h1 h2 h3 hdb
def datAll (f : PyData → Value → Bool) : List PyData → List Value → Bool
  | [], [] => true
  | d :: ds, u :: us => f d u && datAll f ds us
  | _, _ => false
def datTup (K : PySem.W.Frag) (f : PyData → Value → Bool) (ds : List PyData) (a : Addr) : Bool := match K.lookup a with
  | some ⟨.type c, _, .seq its _, _⟩ => decide (c = "tuple") && (decide (its.size ≤ sizeLine) && datAll f ds its.toList)
  | _ => false
def datB (K : PySem.W.Frag) : Nat → PyData → Value → Bool
  | 0, _, _ => false
  | _ + 1, .none, .none => true
  | _ + 1, .bool b, .bool c => decide (b = c)
  | _ + 1, .int i, .int j _ => decide (i = j)
  | _ + 1, .str x, .str y _ => decide (x = y)
  | n + 1, .tuple ds, .ref a => datTup K (datB K n) ds a
  | _, _, _ => false
theorem datAll_ok {K : PySem.W.Frag} {f : PyData → Value → Bool} (hf : ∀ d u, f d u = true → ∃ v, RelV v u ∧ ∀ H, Dp K H v d) : ∀ (ds : List PyData) (us : List Value), datAll f ds us = true → ∃ vs, Vals vs us ∧ ∀ H, DpAll K H vs ds
  | [], [], _ => ⟨[], .nil, fun _ => .nil⟩
  | [], _ :: _, h => nomatch h
  | _ :: _, [], h => nomatch h
  | d :: ds, u :: us, h => by
    obtain ⟨h1, h2⟩ := He.ba h
    obtain ⟨v, r, p⟩ := hf d u h1
    obtain ⟨vs, rs, ps⟩ := datAll_ok hf ds us h2
    exact ⟨v :: vs, .cons r rs, fun H => .cons (p H) (ps H)⟩
theorem datB_ok {K : PySem.W.Frag} : ∀ (n : Nat) (d : PyData) (u : Value), datB K n d u = true → ∃ v, RelV v u ∧ ∀ H, Dp K H v d
  | 0, _, _, h => nomatch h
  | n + 1, d, u, h => by
    unfold datB at h
    split at h
    · rename_i e; cases e
    · exact ⟨.non, rfl, fun _ => .non⟩
    · rename_i b c _ ; have e : b = c := of_decide_eq_true h; subst e; exact ⟨.bl _, rfl, fun _ => .bl _⟩
    · rename_i i j t _ ; have e : i = j := of_decide_eq_true h; subst e; exact ⟨.int _, ⟨t, rfl⟩, fun _ => .int _⟩
    · rename_i x y t _ ; have e : x = y := of_decide_eq_true h; subst e; exact ⟨.str _, ⟨t, rfl⟩, fun _ => .str _⟩
    · rename_i m ds a e
      cases e
      unfold datTup at h
      split at h
      · rename_i c d1 its n1 o1 q
        obtain ⟨h1, h2⟩ := He.ba h
        obtain ⟨h3, h4⟩ := He.ba h2
        obtain ⟨vs, r, p⟩ := datAll_ok (fun d u => datB_ok n d u) ds its.toList h4
        exact ⟨.ref a, rfl, fun H => .tup (.inr ⟨_, its, n1, q, congrArg Value.type (of_decide_eq_true h1), rfl, of_decide_eq_true h3, r⟩) (p H)⟩
      · cases h
    · cases h
def cstB (K : PySem.W.Frag) (t : Str × PyData) : Bool := match PySem.W.nsIn K mainGlobals t.1 with
  | some (some u) => datB K 6 t.2 u
  | _ => false
theorem cstB_ok {K : PySem.W.Frag} {h : Heap} {mg : Str → Option Value} (X : K.In h) (G : h.Ns mainGlobals mg) {x : Str} {d : PyData} (c : cstB K (x, d) = true) : CstD K mg x d := by
  unfold cstB at c
  split at c
  · rename_i u e
    obtain ⟨v, r, p⟩ := datB_ok 6 d u c
    exact ⟨v, u, PySem.W.mg_of X G e, r, p⟩
  · cases c
abbrev AlC : Type := He.AlD × Bool
def obsC (fa : List He.Fa) (fn : List He.DefD) (cs : List (Str × PyData)) (K : PySem.W.Frag) : AlC := (He.obsD fa fn K, cs.all (cstB K))
def obsCG (n : Nat) (fa : List He.Fa) (fn : List He.DefD) (cs : List (Str × PyData)) (g : Addr → Option Obj) : AlC := obsC fa fn cs (He.frG g (He.asD g n))
def SaysC (fa : List He.Fa) (fn : List He.DefD) (cs : List (Str × PyData)) (K : PySem.W.Frag) : Prop := obsC fa fn cs K = (He.valD fn, true)
def hookC (n : Nat) (fa : List He.Fa) (fn : List He.DefD) (cs : List (Str × PyData)) : PySem.W.Hook where
  α := AlC
  obs := fun s => obsCG n fa fn cs s.heap.get?
  val := fun _ => (He.valD fn, true)
  says := fun _ h => ∃ K : PySem.W.Frag, K.In h ∧ SaysC fa fn cs K
  of := fun _ _ e => ⟨_, He.frG_in, e⟩
  keeps := fun _ _ _ ⟨K, hK, c⟩ k => ⟨K, PySem.W.Frag.In.keeps hK k, c⟩
theorem obsCG_eq {n : Nat} {fa : List He.Fa} {fn : List He.DefD} {cs : List (Str × PyData)} {g : Addr → Option Obj} {s : Shared} (h : ∀ a, g a = s.heap.get? a) : obsCG n fa fn cs g = (hookC n fa fn cs).obs s := by
  have e : g = s.heap.get? := funext h
  rw [e] <;> rfl
section
variable {fa : List He.Fa} {fn : List He.DefD} {cs : List (Str × PyData)} {K : PySem.W.Frag}
theorem SaysC.d (c : SaysC fa fn cs K) : He.SaysD fa fn K := congrArg (fun z : AlC => z.1) c
theorem SaysC.cst {h : Heap} {mg : Str → Option Value} (c : SaysC fa fn cs K) (X : K.In h) (G : h.Ns mainGlobals mg) (i : Nat) {x : Str} {d : PyData} (e : cs[i]? = some (x, d) := by rfl) : CstD K mg x d :=
  cstB_ok X G (List.all_eq_true.mp (show cs.all (cstB K) = true from congrArg (fun z : AlC => z.2) c) _ (List.mem_of_getElem? e))
end
end DL

namespace DL
open PySem PySem.Spec L2 DM
/-! ### slices -/
section
variable {K : Fg} {H : Hp}
theorem dpa_drop : ∀ (n : Nat) {vs : List V} {ds : List PyData}, DpAll K H vs ds → DpAll K H (vs.drop n) (ds.drop n)
  | 0, _, _, h => h
  | n + 1, _, _, .nil => .nil
  | n + 1, _, _, .cons _ t => dpa_drop n t
theorem dpa_take : ∀ (n : Nat) {vs : List V} {ds : List PyData}, DpAll K H vs ds → DpAll K H (vs.take n) (ds.take n)
  | 0, _, _, h => .nil
  | n + 1, _, _, .nil => .nil
  | n + 1, _, _, .cons a t => .cons a (dpa_take n t)
theorem dpa_rev : ∀ {vs : List V} {ds : List PyData}, DpAll K H vs ds → DpAll K H vs.reverse ds.reverse
  | _, _, .nil => .nil
  | _, _, .cons a t => by
    rw [List.reverse_cons, List.reverse_cons]
    exact (dpa_rev t).app (.cons a .nil)
def cutD (xs : List PyData) (lo hi : Option Int) : List PyData := (xs.drop (HT.sIx xs.length 0 lo)).take (HT.sIx xs.length xs.length hi - HT.sIx xs.length 0 lo)
theorem dpa_cut {vs : List V} {ds : List PyData} {lo hi : Option Int} (h : DpAll K H vs ds) : DpAll K H (cutV vs lo hi) (cutD ds lo hi) := by
  unfold cutV cutD
  rw [h.len]
  exact dpa_take _ (dpa_drop _ h)
theorem cutD_whole {xs : List PyData} {lo hi : Option Int} (h : HT.sIx xs.length 0 lo = 0 ∧ HT.sIx xs.length xs.length hi = xs.length) : cutD xs lo hi = xs := by
  unfold cutD
  rw [h.1, h.2, List.drop_zero, Nat.sub_zero, List.take_length]
end
section
variable {X : Cx} {Z : Ent} {pos : Pos}
abbrev DPt := DSt → (Option Int → DSt → Prop) → Prop
def lPo (K : Fg) (Z : Ent) (t : DPt) : TO := fun σ H Q => ∃ Hs δ, Rl K Z Hs H σ δ ∧ t δ fun o δ' => ∀ Hs' H', Same Hs Hs' → Rl K Z Hs' H' σ δ' → Q o H'
structure Dpo (X : Cx) (Z : Ent) (e : Option Expr) (t : DPt) : Prop where
  run : PO X e (lPo X.K Z t)
  mono : ∀ (δ : DSt) (Q Q' : Option Int → DSt → Prop), (∀ o δ', Q o δ' → Q' o δ') → t δ Q → t δ Q'
theorem po_imp {e : Option Expr} {t t' : TO} (h : PO X e t) (i : ∀ σ H Q, t' σ H Q → t σ H Q) : PO X e t' := ⟨fun pins s σ H Q I h' => h.run pins s σ H Q I (i σ H Q h')⟩
def dNoP : DPt := fun δ Q => Q none δ
def rPart (d : PyData) (Q : Option Int → Prop) : Prop := match d with
  | .int i => Q (some i)
  | _ => False
theorem part_int {i : Int} {Q : Option Int → Prop} : rPart (.int i) Q = Q (some i) := rfl
def dPart (t : DE) : DPt := fun δ Q => t δ fun d δ' => rPart d fun o => Q o δ'
theorem dpo_none : Dpo X Z none dNoP := ⟨po_imp po_none fun σ H Q ⟨Hs, δ, R, q⟩ => q Hs H (Same.refl _) R, fun δ Q Q' hq h => hq _ _ h⟩
theorem part_mono (d : PyData) (Q Q' : Option Int → Prop) (hq : ∀ o, Q o → Q' o) (h : rPart d Q) : rPart d Q' := by
  cases d <;> first | exact hq _ h | exact h
theorem dpo_some {e : Expr} {t : DE} (h : De X Z e t) : Dpo X Z (some e) (dPart t) := by
  refine ⟨po_imp (po_some h.run) fun σ H Q ⟨Hs, δ, R, q⟩ => ⟨Hs, δ, R, h.mono _ _ _ (fun d δ1 q v Hs1 H1 s1 R1 dp => ?_) q⟩, fun δ Q Q' hq q => h.mono _ _ _ (fun d δ' z => part_mono _ _ _ (fun _ z => hq _ _ z) z) q⟩
  cases d with
  | int i =>
    cases dp
    exact ⟨i, rfl, q Hs1 H1 s1 R1⟩
  | _ => exact q.elim
def rSlD (d : PyData) (lo hi : Option Int) (Q : PyData → Prop) : Prop := match d with
  | .tuple xs => Q (.tuple (cutD xs lo hi))
  | .list xs => Q (.list (cutD xs lo hi))
  | .str z => z.length ≤ sizeLine ∧ Q (.str (Txt.slice z lo hi))
  | _ => False
theorem rSlD_mono (d : PyData) (lo hi : Option Int) (Q Q' : PyData → Prop) (h : ∀ z, Q z → Q' z) (q : rSlD d lo hi Q) : rSlD d lo hi Q' := by
  cases d <;> first | exact h _ q | exact ⟨q.1, h _ q.2⟩ | exact q
def dSl (t : DE) (tl th : DPt) : DE := fun δ Q => t δ fun d δ1 => tl δ1 fun l δ2 => th δ2 fun u δ3 => rSlD d l u fun z => Q z δ3
theorem slD_t {xs : List PyData} {lo hi : Option Int} {Q : PyData → Prop} : rSlD (.tuple xs) lo hi Q = Q (.tuple (cutD xs lo hi)) := rfl
theorem slD_l {xs : List PyData} {lo hi : Option Int} {Q : PyData → Prop} : rSlD (.list xs) lo hi Q = Q (.list (cutD xs lo hi)) := rfl
theorem slD_s {z : Str} {lo hi : Option Int} {Q : PyData → Prop} : rSlD (.str z) lo hi Q = (z.length ≤ sizeLine ∧ Q (.str (Txt.slice z lo hi))) := rfl
theorem de_sl {e : Expr} {lo hi : Option Expr} {p2 : Pos} {t : DE} {tl th : DPt} (he : De X Z e t) (hl : Dpo X Z lo tl) (hu : Dpo X Z hi th) : De X Z (.Subscript e (.Slice lo hi none p2) pos) (dSl t tl th) := by
  refine ⟨pe_imp (pe_slice ((sl_tupA.or sl_list).or C8.sl_txt) he.run hl.run hu.run) fun σ H Q ⟨Hs, δ, R, q⟩ => ⟨Hs, δ, R, he.mono _ _ _ (fun d δ1 q v Hs1 H1 s1 R1 dp => ⟨Hs1, δ1, R1, hl.mono _ _ _ (fun l δ2 q Hs2 H2 s2 R2 => ⟨Hs2, δ2, R2, hu.mono _ _ _ (fun u δ3 q Hs3 H3 s3 R3 => ?_) q⟩) q⟩) q⟩,
    fun δ Q Q' hq q => he.mono _ _ _ (fun d δ1 z => hl.mono _ _ _ (fun l δ2 z => hu.mono _ _ _ (fun u δ3 z => rSlD_mono _ _ _ _ _ (fun _ z => hq _ _ z) z) z) z) q⟩
  have s03 := (s1.trans s2).trans s3
  have dp3 := dp.up (s2.trans s3)
  cases d with
  | tuple xs =>
    cases dp3 with
    | tup hs ha =>
      rename_i a vs
      refine .inl (.inl ⟨a, vs, rfl, sqt_mono R3.sub hs, fun hw => ?_, fun hw p np => ?_⟩)
      · rw [ha.len] at hw
        have e : cutD xs l u = xs := cutD_whole hw
        have q : _ := q
        refine q (.ref a) Hs3 H3 s03 R3 ?_
        rw [e]
        exact .tup hs ha
      · have s4 : Same Hs3 (upd Hs3 p (.tup (cutV vs l u))) := same_new (R3.hsn np)
        exact q (.ref p) _ _ (s03.trans s4) (R3.alloc np) (.tup (SqT.of upd_same) (dpa_cut (ha.up s4)))
  | list xs =>
    cases dp3 with
    | lst hs ha =>
      rename_i a vs
      refine .inl (.inr ⟨a, vs, rfl, R3.sub.seq hs, fun p np => ?_⟩)
      have s4 : Same Hs3 (upd Hs3 p (.lst (cutV vs l u))) := same_new (R3.hsn np)
      exact q (.ref p) _ _ (s03.trans s4) (R3.alloc np) (.lst (SqL.of upd_same) (dpa_cut (ha.up s4)))
  | str z =>
    cases dp3
    exact .inr ⟨z, rfl, q.1, q.2 (.str _) Hs3 H3 s03 R3 (.str _)⟩
  | _ => exact q.elim
class PMono (t : DPt) : Prop where
  m : ∀ (δ : DSt) (Q Q' : Option Int → DSt → Prop), (∀ o δ', Q o δ' → Q' o δ') → t δ Q → t δ Q'
instance : PMono dNoP := ⟨fun δ Q Q' hq h => hq _ _ h⟩
instance {t : DE} [EMono t] : PMono (dPart t) := ⟨fun δ Q Q' hq q => EMono.m (t := t) _ _ _ (fun d δ' z => part_mono _ _ _ (fun _ z => hq _ _ z) z) q⟩
instance {t : DE} {tl th : DPt} [EMono t] [PMono tl] [PMono th] : EMono (dSl t tl th) := ⟨fun δ Q Q' hq q => EMono.m (t := t) _ _ _ (fun d δ1 z => PMono.m (t := tl) _ _ _ (fun l δ2 z => PMono.m (t := th) _ _ _ (fun u δ3 z => rSlD_mono _ _ _ _ _ (fun _ z => hq _ _ z) z) z) z) q⟩
end
/-! ### t[::-1] of a tuple -/
section
open PyProof.Rows HT
variable {prog : Program} {w : World} {A : Around} {E : Value → Shared → Prop} {s : Shared}
theorem rev_adj (n : Nat) : Builtin.Slice.sliceAdjust none none (-1) (n : Int) = ((n : Int) - 1, -1) := rfl
theorem rev_places (n : Nat) : Builtin.Slice.slicePlaces ((n : Int) - 1) (-1) (-1) = n := by
  unfold Builtin.Slice.slicePlaces
  rw [if_neg (by decide)]
  split
  · rw [show (-(-1 : Int)) = 1 from rfl, Int.ediv_one]
    omega
  · omega
theorem fm_range {α : Type} : ∀ (ys : List α) (f : Nat → Option α), (∀ k, k < ys.length → f k = ys[k]?) → (List.range ys.length).filterMap f = ys
  | [], _, _ => rfl
  | y :: ys, f, h => by
    have h0 : f 0 = some y := h 0 (by simp)
    rw [List.length_cons, List.range_succ_eq_map, List.filterMap_cons, h0, List.filterMap_map]
    show y :: (List.range ys.length).filterMap (f ∘ Nat.succ) = y :: ys
    rw [fm_range ys (f ∘ Nat.succ) fun k hk => h (k + 1) (by rw [List.length_cons]; omega)]
theorem rev_pick (xs : Array Value) : ((List.range xs.size).filterMap fun (k : Nat) => xs[(((xs.size : Int) - 1) + (k : Int) * (-1)).toNat]?).toArray = xs.toList.reverse.toArray := by
  have := fm_range xs.toList.reverse (fun (k : Nat) => xs[(((xs.size : Int) - 1) + (k : Int) * (-1)).toNat]?) fun k hk => by
    rw [List.length_reverse] at hk
    rw [List.getElem?_reverse hk, Array.length_toList, Array.getElem?_toList]
    congr 1
    rw [Array.length_toList] at hk
    omega
  rw [List.length_reverse, Array.length_toList] at this
  rw [this]
theorem applied_rev {sl : Addr} {vl vu vs : Value} {n : Nat} {Q : Int × Int × Nat → Shared → Prop} (hs : s.heap.IsSliceOf sl vl vu vs) (pl : IsPart vl none) (pu : IsPart vu none) (ps : IsPart vs (some (-1)))
    (h : Q ((n : Int) - 1, -1, n) s) : wpAny (model prog w) A (Builtin.Slice.sliceApplied (.ref sl) (pure (n : Int))) Q E s := by
  obtain ⟨os, hos, hcs, hds⟩ := id hs
  unfold Builtin.Slice.sliceApplied Builtin.Slice.sliceFields
  refine wpAny_bind (wpAny_bind (wpAny_field hos hds (x := vl) rfl (wpAny_bind (wpAny_field hos hds (x := vu) rfl (wpAny_bind (wpAny_field hos hds (x := vs) rfl (wpAny_pure ?_)))))))
  refine wpAny_bind (slicePart_ ps ?_)
  show wpAny _ _ (if ((-1 : Int) == 0) = true then _ else _) _ _ s
  rw [if_neg (by decide)]
  refine wpAny_bind (slicePart_ pl (wpAny_bind (slicePart_ pu (wpAny_bind (wpAny_pure ?_)))))
  show wpAny _ _ (match Builtin.Slice.sliceAdjust none none (-1) (n : Int) with | (lo, hi) => pure (lo, (-1 : Int), Builtin.Slice.slicePlaces lo hi (-1))) _ _ s
  rw [rev_adj n]
  show wpAny _ _ (pure ((n : Int) - 1, (-1 : Int), Builtin.Slice.slicePlaces ((n : Int) - 1) (-1) (-1))) _ _ s
  rw [rev_places]
  exact wpAny_pure h
theorem getItem_rev {t sl : Addr} {items : Array Value} {vl vu vs : Value} {Q : Value → Shared → Prop} (ht : IsTup s.heap t items) (hs : s.heap.IsSliceOf sl vl vu vs) (pl : IsPart vl none) (pu : IsPart vu none) (ps : IsPart vs (some (-1)))
    (h : Q (.ref s.heap.objs.size) { s with heap := s.heap.push { cls := .type "tuple", data := .seq items.toList.reverse.toArray } })
    (hsz : items.size ≤ sizeLine) : wpAny (model prog w) A (getItem (.ref t) (.ref sl)) Q E s := by
  have htake : sizeOk (.seq items.toList.reverse.toArray) := by
    show items.toList.reverse.toArray.size ≤ sizeLine
    rw [List.size_toArray, List.length_reverse, Array.length_toList]
    exact hsz
  obtain ⟨os, hos, hcs, hds⟩ := id hs
  have hTs : s.TypeIs (.ref sl) "slice" := ⟨os, hos, hcs⟩
  unfold getItem
  try with_reducible refine wpAny_holding ?_
  first | refine wpAny_bind (wpAny_pure ?_) | skip
  refine wpAny_bind (wpAny_sequenceKey ht.typeIs (by decide) ?_)
  refine wpAny_bind (wpAny_callSpecial?_slot (name := Str.ofString "__getitem__") ht.typeIs PyProof.Rows.slot_tuple_getitem
    (wpAny_call_entry PyProof.Rows.slot_tuple_getitem ht.typeIs entry_tuple_getitem ?_ (args_tuple_getitem _ _)))
  show wpAny _ _ (Builtin.Tuple.tupleItemsOf (.ref t) >>= _) _ _ s
  refine wpAny_bind (tupleItemsOf_ ht ?_)
  refine wpAny_bind (wpAny_typeOf hTs ?_)
  rw [if_pos (by decide)]
  refine wpAny_bind (applied_rev hs pl pu ps ?_)
  have hno : ¬ (((items.size : Int) - 1 == 0 && (-1 : Int) == 1 && items.size == items.size) = true) := by
    intro q
    rw [Bool.and_eq_true, Bool.and_eq_true] at q
    exact absurd q.1.2 (by decide)
  show wpAny _ _ (if ((items.size : Int) - 1 == 0 && (-1 : Int) == 1 && items.size == items.size) = true then _ else _) _ _ s
  rw [if_neg hno, rev_pick]
  first
    | exact wpAny_bind (m := Builtin.Tuple.tupleExact _) (wpAny_newObj_type (wpAny_pure ⟨_, rfl, wpAny_pure h⟩) htake)
    | exact wpAny_bind (m := Builtin.Tuple.tupleExact _) (wpAny_newObj_type (wpAny_bind (wpAny_pure (wpAny_pure ⟨_, rfl, wpAny_pure h⟩))) htake)
    | exact wpAny_bind (wpAny_bind (m := Builtin.Tuple.tupleExact _) (wpAny_newObj_type (wpAny_pure (wpAny_pure ⟨_, rfl, wpAny_pure h⟩)) htake))
    | exact wpAny_bind (wpAny_bind (m := Builtin.Tuple.tupleExact _) (wpAny_newObj_type (wpAny_pure ⟨_, rfl, wpAny_pure h⟩) htake))
end
section
variable {X : Cx} {Z : Ent} {pos : Pos}
open PySem PySem.Spec PyProof.Rows HT in
def tRevT (K : PySem.W.Frag) (te : TE) : TE := fun σ H Q => te σ H fun x H1 => ∃ a xs, x = .ref a ∧ SqT K H1 a xs ∧ ∀ p, H1 p = none → Q (.ref p) (upd H1 p (.tup xs.reverse))
open PyProof.Rows HT in
theorem pe_revT {e : Expr} {te : TE} {k} {p1 p2 p3 : Pos} (he : PE X e te) : PE X (.Subscript e (.Slice none none (some (.UnaryOp .USub (.Constant (.int 1) k p1) p2)) p3) pos) (tRevT X.K te) := by
  refine ⟨fun pins s σ H Q I h => ?_⟩
  refine Subscript_ (thn (he.run pins s σ H _ I h) fun v s1 ⟨x, H1, I1, r1, q1⟩ => ?_)
  obtain ⟨a, xs, ex, hx, q⟩ := q1
  subst ex
  cases r1
  have hst : PO X (some (.UnaryOp .USub (.Constant (.int 1) k p1) p2)) (tPart (tUn (rU fun i => .int (-i)) (tC (.int 1)))) := po_some (pe_un un_neg pe_int)
  refine wpAny_Slice (thn (po_none.run pins s1 σ H1 (fun o H2 => o = none ∧ H2 = H1) I1 ⟨rfl, rfl⟩) fun vl s2 ⟨l, H2, I2, pl, el, e2⟩ => ?_)
  subst el e2
  refine thn (po_none.run pins s2 σ H2 (fun o H3 => o = none ∧ H3 = H2) I2 ⟨rfl, rfl⟩) fun vu s3 ⟨u, H3, I3, pu, eu, e3⟩ => ?_
  subst eu e3
  refine thn (hst.run pins s3 σ H3 (fun o H4 => o = some (-1) ∧ H4 = H3) I3 ⟨1, rfl, -1, rfl, rfl, rfl⟩) fun vs s4 ⟨o, H4, I4, ps, eo, e4⟩ => ?_
  subst eo e4
  have I5 : Inv X pins σ H4 { s4 with heap := s4.heap.push { cls := .type "slice", data := .fields #[vl, vu, vs] } } := I4.kept (t' := s4.toks) fun b ob q => Heap.get?_push_of_some _ q
  obtain ⟨its, r, ht, hz⟩ := I5.tuple hx
  have hlen : its.toArray.size = xs.length := by rw [List.size_toArray]; exact r.length.symm
  show wpAny (model X.prog X.w) X.A (subscriptTail e (.Slice none none (some (.UnaryOp .USub (.Constant (.int 1) k p1) p2)) p3) (.ref a) (.ref s4.heap.objs.size)) (EP X pins σ Q) X.xe { s4 with heap := s4.heap.push { cls := .type "slice", data := .fields #[vl, vu, vs] } }
  refine tail_any (ops := [.ref a, .ref s4.heap.objs.size]) ht.typeIs (PyProof.Rows.slot_tuple_getitem.lookup) ?_ (by with_unfolding_all rfl)
  refine getItem_rev ht (Heap.IsSliceOf.new _ vl vu vs) pl pu ps ?_ (by rw [hlen]; exact hz)
  refine ⟨.ref _, _, I5.laid (t' := s4.toks) (o := .tup xs.reverse) (fun b ob q => Heap.get?_push_of_some _ q) (Nat.le_refl _) ?_, rfl, q _ (I5.hok.fresh (Nat.le_refl _))⟩
  exact ⟨by rw [List.length_reverse]; exact hz, _, r.reverse, IsTup.new _ _⟩
def rRevD (d : PyData) (Q : PyData → Prop) : Prop := match d with
  | .tuple xs => Q (.tuple xs.reverse)
  | _ => False
theorem rRevD_mono (d : PyData) (Q Q' : PyData → Prop) (h : ∀ z, Q z → Q' z) (q : rRevD d Q) : rRevD d Q' := by
  cases d <;> first | exact h _ q | exact q
theorem revD_t {xs : List PyData} {Q : PyData → Prop} : rRevD (.tuple xs) Q = Q (.tuple xs.reverse) := rfl
def dRev (t : DE) : DE := fun δ Q => t δ fun d δ' => rRevD d fun z => Q z δ'
theorem de_revT {e : Expr} {t : DE} {k} {p1 p2 p3 : Pos} (he : De X Z e t) : De X Z (.Subscript e (.Slice none none (some (.UnaryOp .USub (.Constant (.int 1) k p1) p2)) p3) pos) (dRev t) := by
  refine ⟨pe_imp (pe_revT he.run) fun σ H Q ⟨Hs, δ, R, q⟩ => ⟨Hs, δ, R, he.mono _ _ _ (fun d δ1 q v Hs1 H1 s1 R1 dp => ?_) q⟩, fun δ Q Q' hq q => he.mono _ _ _ (fun d δ' z => rRevD_mono _ _ _ (fun _ z => hq _ _ z) z) q⟩
  cases d with
  | tuple xs =>
    cases dp with
    | tup hs ha =>
      rename_i a vs
      refine ⟨a, vs, rfl, sqt_mono R1.sub hs, fun p np => ?_⟩
      have s4 : Same Hs1 (upd Hs1 p (.tup vs.reverse)) := same_new (R1.hsn np)
      exact q (.ref p) _ _ (s1.trans s4) (R1.alloc np) (.tup (SqT.of upd_same) (dpa_rev (ha.up s4)))
  | _ => exact q.elim
instance {t : DE} [EMono t] : EMono (dRev t) := ⟨fun δ Q Q' hq q => EMono.m (t := t) _ _ _ (fun d δ' z => rRevD_mono _ _ _ (fun _ z => hq _ _ z) z) q⟩
end
end DL

namespace DL
open PySem PySem.Spec L2 DM
theorem cut_to {xs : List PyData} {i : Int} (h : 0 ≤ i) : cutD xs none (some i) = xs.take i.toNat := by
  unfold cutD
  show (xs.drop 0).take ((if i < 0 then (i + (xs.length : Int)).toNat else min i.toNat xs.length) - 0) = _
  rw [if_neg (by omega), List.drop_zero, Nat.sub_zero, List.take_eq_take_iff]
  omega
theorem cut_from {xs : List PyData} {i : Int} (h : 0 ≤ i) : cutD xs (some i) none = xs.drop i.toNat := by
  unfold cutD
  show (xs.drop (if i < 0 then (i + (xs.length : Int)).toNat else min i.toNat xs.length)).take (xs.length - (if i < 0 then (i + (xs.length : Int)).toNat else min i.toNat xs.length)) = _
  rw [if_neg (by omega)]
  rcases Nat.le_total i.toNat xs.length with z | z
  · rw [Nat.min_eq_left z, List.take_of_length_le (by rw [List.length_drop]; omega)]
  · rw [Nat.min_eq_right z, List.drop_eq_nil_of_le z, List.drop_length, List.take_nil]
/-! ### frames -/
inductive Fr where
  | shift (a b : Rat)
  | turn (p q : Int)
  | flip
def frD : Fr → PyData
  | .shift a b => .tuple [.str "shift", numD a, numD b]
  | .turn p q => .tuple [.str "turn", .int p, .int q]
  | .flip => .tuple [.str "flip"]
def FrOk : Fr → Prop
  | .shift a b => Bd 14 a ∧ Bd 14 b
  | .turn p q => (p ≠ 0 ∨ q ≠ 0) ∧ p.natAbs < 2 ^ 7 ∧ q.natAbs < 2 ^ 7
  | .flip => True
def fwd (m : Bool) : Fr → Rat × Rat → Rat × Rat
  | .shift a b, p => if m then (p.1 + a, p.2 + b) else p
  | .turn s t, p => (p.1 * hdc s t - p.2 * hds s t, p.1 * hds s t + p.2 * hdc s t)
  | .flip, p => (p.1, -p.2)
def bwd : Fr → Rat × Rat → Rat × Rat
  | .shift a b, p => (p.1 - a, p.2 - b)
  | .turn s t, p => (p.1 * hdc s t - p.2 * -hds s t, p.1 * -hds s t + p.2 * hdc s t)
  | .flip, p => (p.1, -p.2)
theorem hdc_neg (p q : Int) : hdc (0 - p) q = hdc p q := by
  unfold hdc
  rw [show (0 - p) * (0 - p) = p * p by rw [Int.zero_sub, Int.neg_mul_neg]]
theorem dI_neg (a b : Int) : Rat.divInt (-a) b = -Rat.divInt a b := by
  rw [Rat.divInt_eq_div, Rat.divInt_eq_div, Rat.intCast_neg]
  grind
theorem hds_neg (p q : Int) : hds (0 - p) q = -hds p q := by
  unfold hds
  rw [show (0 - p) * (0 - p) = p * p by rw [Int.zero_sub, Int.neg_mul_neg], show 2 * (0 - p) * q = -(2 * p * q) by grind, dI_neg]
theorem fwd_bwd {f : Fr} (h : FrOk f) (p : Rat × Rat) : fwd true f (bwd f p) = p := by
  cases f with
  | shift a b => exact Prod.ext (by simp only [fwd, bwd, if_true]; grind) (by simp only [fwd, bwd, if_true]; grind)
  | turn s t =>
    have h1 := hd_one h.1
    simp only [fwd, bwd]
    generalize hdc s t = c at *
    generalize hds s t = u at *
    exact Prod.ext (by simp only; grind) (by simp only; grind)
  | flip => exact Prod.ext rfl (by simp only [fwd, bwd]; grind)
theorem bwd_fwd {f : Fr} (h : FrOk f) (p : Rat × Rat) : bwd f (fwd true f p) = p := by
  cases f with
  | shift a b => exact Prod.ext (by simp only [fwd, bwd, if_true]; grind) (by simp only [fwd, bwd, if_true]; grind)
  | turn s t =>
    have h1 := hd_one h.1
    simp only [fwd, bwd]
    generalize hdc s t = c at *
    generalize hds s t = u at *
    exact Prod.ext (by simp only; grind) (by simp only; grind)
  | flip => exact Prod.ext rfl (by simp only [fwd, bwd]; grind)
def led (m : Bool) (fs : List Fr) (p : Rat × Rat) : Rat × Rat := fs.foldr (fwd m) p
def unled (fs : List Fr) (p : Rat × Rat) : Rat × Rat := fs.foldl (fun p f => bwd f p) p
theorem led_unled : ∀ (fs : List Fr) (p : Rat × Rat), (∀ f ∈ fs, FrOk f) → led true fs (unled fs p) = p
  | [], _, _ => rfl
  | f :: fs, p, h => by
    show fwd true f (led true fs (unled fs (bwd f p))) = p
    rw [led_unled fs _ fun g m => h g (List.mem_cons_of_mem _ m)]
    exact fwd_bwd (h f List.mem_cons_self) p
theorem unled_led : ∀ (fs : List Fr) (p : Rat × Rat), (∀ f ∈ fs, FrOk f) → unled fs (led true fs p) = p
  | [], _, _ => rfl
  | f :: fs, p, h => by
    show unled fs (bwd f (fwd true f (led true fs p))) = p
    rw [bwd_fwd (h f List.mem_cons_self)]
    exact unled_led fs p fun g m => h g (List.mem_cons_of_mem _ m)
/-! sizes of places by a common bottom -/
def Bc (n : Nat) (p : Rat × Rat) : Prop := ∃ a b d : Int, 0 < d ∧ p.1 = Rat.divInt a d ∧ p.2 = Rat.divInt b d ∧ a.natAbs < 2 ^ n ∧ b.natAbs < 2 ^ n ∧ d.natAbs < 2 ^ n
theorem Bc.bd {n : Nat} {p : Rat × Rat} (h : Bc n p) : Bd n p.1 ∧ Bd n p.2 := by
  obtain ⟨a, b, d, h0, e1, e2, h1, h2, h3⟩ := h
  rw [e1, e2]
  exact ⟨bd_divInt h1 h3 (by omega), bd_divInt h2 h3 (by omega)⟩
theorem Bc.mono {m n : Nat} {p : Rat × Rat} (h : Bc m p) (e : m ≤ n) : Bc n p := by
  obtain ⟨a, b, d, h0, e1, e2, h1, h2, h3⟩ := h
  have := Nat.pow_le_pow_right (show 0 < 2 by omega) e
  exact ⟨a, b, d, h0, e1, e2, by omega, by omega, by omega⟩
theorem ml {a b : Int} {m n : Nat} (h1 : a.natAbs < 2 ^ m) (h2 : b.natAbs < 2 ^ n) : (a * b).natAbs < 2 ^ (m + n) := by
  rw [Int.natAbs_mul, Nat.pow_add]
  exact Nat.mul_lt_mul'' h1 h2
theorem ad {a b : Int} {n : Nat} (h1 : a.natAbs < 2 ^ n) (h2 : b.natAbs < 2 ^ n) : (a + b).natAbs < 2 ^ (n + 1) := by
  rw [Nat.pow_succ]
  omega
theorem sb {a b : Int} {n : Nat} (h1 : a.natAbs < 2 ^ n) (h2 : b.natAbs < 2 ^ n) : (a - b).natAbs < 2 ^ (n + 1) := by
  rw [Nat.pow_succ]
  omega
theorem upn {a : Int} {m n : Nat} (h : a.natAbs < 2 ^ m) (e : m ≤ n) : a.natAbs < 2 ^ n := Nat.lt_of_lt_of_le h (Nat.pow_le_pow_right (by omega) e)
theorem rz {d : Int} (h : 0 < d) : (d : Rat) ≠ 0 := fun e => by
  have := Rat.intCast_eq_zero_iff.mp e
  omega
theorem Bc.of {m n : Nat} {x y : Rat} (hx : Bd m x) (hy : Bd n y) : Bc (m + n) (x, y) := by
  have d1 := x.den_pos
  have d2 := y.den_pos
  have c1 : ((x.den : Int)).natAbs < 2 ^ m := by rw [Int.natAbs_natCast]; exact hx.2
  have c2 : ((y.den : Int)).natAbs < 2 ^ n := by rw [Int.natAbs_natCast]; exact hy.2
  refine ⟨x.num * y.den, y.num * x.den, x.den * y.den, Int.mul_pos (by omega) (by omega), ?_, ?_, ml hx.1 c2, ?_, ml c1 c2⟩
  · show x = _
    rw [Rat.divInt_eq_div, Rat.intCast_mul, Rat.intCast_mul]
    have z1 := rz (show (0 : Int) < (x.den : Int) by omega)
    have z2 := rz (show (0 : Int) < (y.den : Int) by omega)
    have e : x = (x.num : Rat) / ((x.den : Int) : Rat) := by rw [← Rat.divInt_eq_div]; exact (Rat.num_divInt_den x).symm
    generalize (x.num : Rat) = a at *
    generalize ((x.den : Int) : Rat) = b at *
    generalize ((y.den : Int) : Rat) = c at *
    rw [e]
    grind
  · show y = _
    rw [Rat.divInt_eq_div, Rat.intCast_mul, Rat.intCast_mul]
    have z1 := rz (show (0 : Int) < (x.den : Int) by omega)
    have z2 := rz (show (0 : Int) < (y.den : Int) by omega)
    have e : y = (y.num : Rat) / ((y.den : Int) : Rat) := by rw [← Rat.divInt_eq_div]; exact (Rat.num_divInt_den y).symm
    generalize (y.num : Rat) = a at *
    generalize ((x.den : Int) : Rat) = b at *
    generalize ((y.den : Int) : Rat) = c at *
    rw [e]
    grind
  · rw [Nat.add_comm]
    exact ml hy.1 c1
theorem Bc.add {m n : Nat} {p q : Rat × Rat} (hp : Bc m p) (hq : Bc n q) : Bc (m + n + 1) (p.1 + q.1, p.2 + q.2) := by
  obtain ⟨a, b, d, h0, e1, e2, h1, h2, h3⟩ := hp
  obtain ⟨a', b', d', h0', e1', e2', h1', h2', h3'⟩ := hq
  refine ⟨a * d' + a' * d, b * d' + b' * d, d * d', Int.mul_pos h0 h0', ?_, ?_, ad (ml h1 h3') (by rw [Nat.add_comm]; exact ml h1' h3), ad (ml h2 h3') (by rw [Nat.add_comm]; exact ml h2' h3), upn (ml h3 h3') (by omega)⟩
  · show p.1 + q.1 = _
    rw [e1, e1', Rat.divInt_eq_div, Rat.divInt_eq_div, Rat.divInt_eq_div]
    simp only [Rat.intCast_mul, Rat.intCast_add]
    have z1 := rz h0
    have z2 := rz h0'
    grind
  · show p.2 + q.2 = _
    rw [e2, e2', Rat.divInt_eq_div, Rat.divInt_eq_div, Rat.divInt_eq_div]
    simp only [Rat.intCast_mul, Rat.intCast_add]
    have z1 := rz h0
    have z2 := rz h0'
    grind
theorem Bc.neg2 {n : Nat} {p : Rat × Rat} (h : Bc n p) : Bc n (p.1, -p.2) := by
  obtain ⟨a, b, d, h0, e1, e2, h1, h2, h3⟩ := h
  exact ⟨a, -b, d, h0, e1, by rw [dI_neg, ← e2], h1, by rw [Int.natAbs_neg]; exact h2, h3⟩
theorem Bc.turn {m n : Nat} {p q : Rat × Rat} (hp : Bc m p) (hq : Bc n q) : Bc (m + n + 1) (p.1 * q.1 - p.2 * q.2, p.1 * q.2 + p.2 * q.1) := by
  obtain ⟨a, b, d, h0, e1, e2, h1, h2, h3⟩ := hp
  obtain ⟨a', b', d', h0', e1', e2', h1', h2', h3'⟩ := hq
  refine ⟨a * a' - b * b', a * b' + b * a', d * d', Int.mul_pos h0 h0', ?_, ?_, sb (ml h1 h1') (ml h2 h2'), ad (ml h1 h2') (ml h2 h1'), upn (ml h3 h3') (by omega)⟩
  · show p.1 * q.1 - p.2 * q.2 = _
    rw [e1, e1', e2, e2']
    simp only [Rat.divInt_eq_div, Rat.intCast_mul, Rat.intCast_sub]
    have z1 := rz h0
    have z2 := rz h0'
    grind
  · show p.1 * q.2 + p.2 * q.1 = _
    rw [e1, e1', e2, e2']
    simp only [Rat.divInt_eq_div, Rat.intCast_mul, Rat.intCast_add]
    have z1 := rz h0
    have z2 := rz h0'
    grind
theorem bc_hd {p q : Int} {k : Nat} (h : p ≠ 0 ∨ q ≠ 0) (hp : p.natAbs < 2 ^ k) (hq : q.natAbs < 2 ^ k) : Bc (2 * k + 1) (hdc p q, hds p q) := by
  have h0 := two_pos h
  have a1 := ml hp hp
  have a2 := ml hq hq
  have a3 := ml hp hq
  rw [← Nat.two_mul] at a1 a2 a3
  refine ⟨q * q - p * p, 2 * p * q, p * p + q * q, h0, rfl, rfl, sb a2 a1, ?_, ad a1 a2⟩
  rw [Int.mul_assoc, Int.natAbs_mul, Nat.pow_succ, Nat.mul_comm]
  exact Nat.mul_lt_mul_of_pos_right a3 (by decide)
theorem Bc.fwd {n : Nat} {p : Rat × Rat} {f : Fr} (m : Bool) (h : Bc n p) (hf : FrOk f) : Bc (n + 29) (fwd m f p) := by
  cases f with
  | shift a b =>
    cases m
    · exact h.mono (by omega)
    · exact h.add (Bc.of hf.1 hf.2)
  | turn s t => exact (h.turn (bc_hd hf.1 hf.2.1 hf.2.2)).mono (by omega)
  | flip => exact h.neg2.mono (by omega)
theorem Bc.bwd {n : Nat} {p : Rat × Rat} {f : Fr} (h : Bc n p) (hf : FrOk f) : Bc (n + 29) (bwd f p) := by
  cases f with
  | shift a b =>
    have := h.add (Bc.of hf.1.neg hf.2.neg)
    show Bc (n + 29) (p.1 - a, p.2 - b)
    rw [Rat.sub_eq_add_neg, Rat.sub_eq_add_neg]
    exact this
  | turn s t =>
    have := h.turn (bc_hd (p := 0 - s) (q := t) (k := 7) (by have := hf.1; omega) (by have := hf.2.1; omega) hf.2.2)
    simp only [hdc_neg, hds_neg] at this
    exact this.mono (by omega)
  | flip => exact h.neg2.mono (by omega)
def frsD (fs : List Fr) : PyData := .tuple (fs.map frD)
def BcUp (p : Rat × Rat) : Prop := ∃ n, n ≤ 1800 ∧ Bc n p
def f_fr (m : Bool) : FP := fn2 frD plD (fun f p => FrOk f ∧ BcUp p) (fun f p => plD (fwd m f p))
def f_back : FP := fn2 frD plD (fun f p => FrOk f ∧ BcUp p) (fun f p => plD (bwd f p))
instance {m : Bool} : FMono (f_fr m) := fm2
instance : FMono f_back := fm2
def LedOk (fs : List Fr) (p : Rat × Rat) : Prop := (∀ f ∈ fs, FrOk f) ∧ ∃ n, n + 29 * fs.length ≤ 1800 ∧ Bc n p
def f_led (m : Bool) : FP := fn2 frsD plD LedOk (fun fs p => plD (led m fs p))
def f_from : FP := fn2 frsD plD LedOk (fun fs p => plD (unled fs p))
instance {m : Bool} : FMono (f_led m) := fm2
instance : FMono f_from := fm2
theorem bc_led {n : Nat} {p : Rat × Rat} (m : Bool) (h : Bc n p) : ∀ fs : List Fr, (∀ f ∈ fs, FrOk f) → Bc (n + 29 * fs.length) (led m fs p)
  | [], _ => h
  | f :: fs, hf => by
    have := (bc_led m h fs fun g z => hf g (List.mem_cons_of_mem _ z)).fwd m (hf f List.mem_cons_self)
    rw [List.length_cons]
    exact this.mono (by omega)
theorem bc_unled : ∀ (fs : List Fr) {n : Nat} {p : Rat × Rat}, Bc n p → (∀ f ∈ fs, FrOk f) → Bc (n + 29 * fs.length) (unled fs p)
  | [], _, _, h, _ => h
  | f :: fs, n, p, h, hf => by
    have := bc_unled fs (h.bwd (hf f List.mem_cons_self)) fun g z => hf g (List.mem_cons_of_mem _ z)
    rw [List.length_cons]
    exact this.mono (by omega)
theorem BcUp.bd {p : Rat × Rat} (h : BcUp p) : Bd 1900 p.1 ∧ Bd 1900 p.2 := by
  obtain ⟨n, h1, h2⟩ := h
  exact ⟨h2.bd.1.mono (by omega), h2.bd.2.mono (by omega)⟩
theorem led_drop {m : Bool} {fs : List Fr} {p : Rat × Rat} {k : Nat} {f : Fr} (h : fs[k]? = some f) : led m (fs.drop k) p = fwd m f (led m (fs.drop (k + 1)) p) := by
  obtain ⟨hk, rfl⟩ := List.getElem?_eq_some_iff.mp h
  rw [List.drop_eq_getElem_cons hk]
  rfl
theorem unled_take {fs : List Fr} {p : Rat × Rat} {k : Nat} {f : Fr} (h : fs[k]? = some f) : unled (fs.take (k + 1)) p = bwd f (unled (fs.take k) p) := by
  rw [List.take_add_one, h]
  unfold unled
  rw [List.foldl_append]
  rfl
/-- the bag's frames -/
def valOk (u : Rat) : Prop := Bd 14 u
def f_value : FB := bg0 4 numD (Bd 14)
instance : BMono f_value := bm0
def f_turnB : FB := bg0 3 prD (fun p => p.1.natAbs < 2 ^ 7 ∧ p.2.natAbs < 2 ^ 7 ∧ (p.1 ≠ 0 ∨ p.2 ≠ 0))
instance : BMono f_turnB := bm0
def f_frame : FB := bg0 9 frD FrOk
instance : BMono f_frame := bm0
def f_frames : FB := bg1 100 PyData.int (fun m => 0 ≤ m ∧ m ≤ 10) frsD (fun m fs => (∀ f ∈ fs, FrOk f) ∧ (fs.length : Int) ≤ m)
instance : BMono f_frames := bm1
theorem frames_at {xs : List PyData} {n : Nat} {m : Int} {Q : Res → List PyData → Prop} (hb : BagOk n xs) (hn : n + 100 ≤ mostDraws) (h1 : 0 ≤ m) (h2 : m ≤ 10) (h : ∀ (fs : List Fr) xs', (∀ f ∈ fs, FrOk f) → (fs.length : Int) ≤ m → BagOk (n + 100) xs' → Q (.d (frsD fs)) xs') : f_frames xs [.int m] Q :=
  ⟨n, m, hb, hn, rfl, ⟨h1, h2⟩, fun p xs' e b => h p xs' e.1 e.2 b⟩
theorem rev_get {fs : List Fr} {j : Nat} {d : PyData} (h : (fs.map frD).reverse[j]? = some d) : ∃ f, d = frD f ∧ fs[fs.length - (j + 1)]? = some f ∧ j < fs.length := by
  have hj : j < (fs.map frD).reverse.length := (List.getElem?_eq_some_iff.mp h).1
  rw [List.length_reverse] at hj
  rw [List.getElem?_reverse hj, List.getElem?_map] at h
  rw [List.length_map] at h hj
  rw [show fs.length - 1 - j = fs.length - (j + 1) by omega] at h
  cases e : fs[fs.length - (j + 1)]? with
  | none =>
    rw [e] at h
    cases h
  | some f =>
    rw [e] at h
    cases h
    exact ⟨f, rfl, rfl, hj⟩
theorem map_get {fs : List Fr} {j : Nat} {d : PyData} (h : (fs.map frD)[j]? = some d) : ∃ f, d = frD f ∧ fs[j]? = some f ∧ j < fs.length := by
  have hj : j < (fs.map frD).length := (List.getElem?_eq_some_iff.mp h).1
  rw [List.getElem?_map] at h
  rw [List.length_map] at hj
  cases e : fs[j]? with
  | none =>
    rw [e] at h
    cases h
  | some f =>
    rw [e] at h
    cases h
    exact ⟨f, rfl, rfl, hj⟩
theorem led_step {m : Bool} {fs : List Fr} {p : Rat × Rat} {n j : Nat} {f : Fr} (hf : ∀ f ∈ fs, FrOk f) (hn : n + 29 * fs.length ≤ 1800) (hp : Bc n p) (e : fs[fs.length - (j + 1)]? = some f) (hj : j < fs.length) :
    FrOk f ∧ BcUp (led m (fs.drop (fs.length - j)) p) ∧ fwd m f (led m (fs.drop (fs.length - j)) p) = led m (fs.drop (fs.length - (j + 1))) p := by
  refine ⟨hf f (List.mem_of_getElem? e), ⟨_, ?_, bc_led m hp _ fun g z => hf g (List.mem_of_mem_drop z)⟩, ?_⟩
  · rw [List.length_drop]
    omega
  · rw [led_drop (k := fs.length - (j + 1)) e, show fs.length - (j + 1) + 1 = fs.length - j by omega]
theorem unled_step {fs : List Fr} {p : Rat × Rat} {n j : Nat} {f : Fr} (hf : ∀ f ∈ fs, FrOk f) (hn : n + 29 * fs.length ≤ 1800) (hp : Bc n p) (e : fs[j]? = some f) (hj : j < fs.length) :
    FrOk f ∧ BcUp (unled (fs.take j) p) ∧ bwd f (unled (fs.take j) p) = unled (fs.take (j + 1)) p := by
  refine ⟨hf f (List.mem_of_getElem? e), ⟨_, ?_, bc_unled _ hp fun g z => hf g (List.mem_of_mem_take z)⟩, (unled_take e).symm⟩
  rw [List.length_take]
  omega
/-- a comprehension by an invariant of turn, items told so far and state -/
theorem lc_at {g : DG} {tt : DT} {te : DE} {vs : List Nat} [GMono g] [TMono tt] [EMono te] {Q : List PyData → DSt → Prop} (W : Nat → List PyData → DSt → Prop) (items : List PyData) {δ : DSt} (h0 : W 0 [] δ)
    (hs : ∀ W' : Nat → List PyData → DSt → Prop, (∀ i acc δ, W i acc δ → W' i acc δ) → ∀ i d acc δ, items[i]? = some d → W i acc δ → g d δ fun δ2 => tt δ2 fun b δ3 => match b with
      | true => te δ3 fun y δ4 => acc.length < sizeLine ∧ W' (i + 1) (acc ++ [y]) (dwipe δ4 vs)
      | false => W' (i + 1) acc (dwipe δ3 vs)) (hd : ∀ acc δ, W items.length acc δ → Q acc δ) : dLcL g tt te vs Q items [] δ := by
  have aux : ∀ (r : List PyData) (i : Nat) (acc : List PyData) (δ : DSt), items.drop i = r → W i acc δ → i ≤ items.length → dLcL g tt te vs Q r acc δ := by
    intro r
    induction r with
    | nil =>
      intro i acc δ e w hi
      have : i = items.length := by
        have := List.drop_eq_nil_iff.mp e
        omega
      subst this
      exact hd _ _ w
    | cons d r ih =>
      intro i acc δ e w hi
      have hlt : i < items.length := by
        apply Classical.byContradiction
        intro z
        rw [List.drop_eq_nil_of_le (by omega)] at e
        cases e
      rw [List.drop_eq_getElem_cons hlt] at e
      injection e with e1 e2
      refine GMono.m (t := g) _ _ _ _ (fun δ2 z => TMono.m (t := tt) _ _ _ (fun b δ3 z => ?_) z) (hs W (fun _ _ _ h => h) i d acc δ (by rw [List.getElem?_eq_getElem hlt, e1]) w)
      cases b with
      | true => exact EMono.m (t := te) _ _ _ (fun y δ4 z => ⟨z.1, ih (i + 1) _ _ e2 z.2 hlt⟩) z
      | false => exact ih (i + 1) _ _ e2 z hlt
  exact aux items 0 [] δ rfl h0 (Nat.zero_le _)
/-- the law's own -/
def f_lby : FP := fn3 frD plD PyData.bool (fun f p _ => FrOk f ∧ BcUp p) (fun f p m => plD (fwd m f p))
instance : FMono f_lby := fm3
def f_lled : FP := fn3 frsD plD PyData.bool (fun fs p _ => LedOk fs p) (fun fs p m => plD (led m fs p))
instance : FMono f_lled := fm3
theorem value_at {xs : List PyData} {n : Nat} {Q : Res → List PyData → Prop} (hb : BagOk n xs) (hn : n + 4 ≤ mostDraws) (h : ∀ (u : Rat) xs', Bd 14 u → BagOk (n + 4) xs' → Q (.d (numD u)) xs') : f_value xs [] Q :=
  ⟨n, hb, hn, rfl, fun p xs' e b => h p xs' e b⟩
theorem turn_at {xs : List PyData} {n : Nat} {Q : Res → List PyData → Prop} (hb : BagOk n xs) (hn : n + 3 ≤ mostDraws) (h : ∀ (p q : Int) xs', p.natAbs < 2 ^ 7 → q.natAbs < 2 ^ 7 → (p ≠ 0 ∨ q ≠ 0) → BagOk (n + 3) xs' → Q (.d (.tuple [.int p, .int q])) xs') : f_turnB xs [] Q :=
  ⟨n, hb, hn, rfl, fun p xs' e b => h p.1 p.2 xs' e.1 e.2.1 e.2.2 b⟩
theorem frame_at {xs : List PyData} {n : Nat} {Q : Res → List PyData → Prop} (hb : BagOk n xs) (hn : n + 9 ≤ mostDraws) (h : ∀ (f : Fr) xs', FrOk f → BagOk (n + 9) xs' → Q (.d (frD f)) xs') : f_frame xs [] Q :=
  ⟨n, hb, hn, rfl, fun p xs' e b => h p xs' e b⟩
end DL

namespace DM
/-! places as pairs -/
def sb2 (p q : Rat × Rat) : Rat × Rat := (p.1 - q.1, p.2 - q.2)
def ad2 (p q : Rat × Rat) : Rat × Rat := (p.1 + q.1, p.2 + q.2)
def sc2 (p : Rat × Rat) (u : Rat) : Rat × Rat := (p.1 * u, p.2 * u)
def tn2 (p q : Rat × Rat) : Rat × Rat := (p.1 * q.1 - p.2 * q.2, p.1 * q.2 + p.2 * q.1)
def cr (p q : Rat × Rat) : Rat := p.1 * q.2 - p.2 * q.1
def dt (p q : Rat × Rat) : Rat := p.1 * q.1 + p.2 * q.2
def behind (c d : Rat) : Bool := decide (c < 0) || (decide (c = 0) && decide (d < 0))
/-- c1 d1: cross and dot from the one to the other; c2 d2: to the last; c3: cross from the other to the last -/
def soon (c1 d1 c2 d2 c3 : Rat) : Bool := if behind c1 d1 = behind c2 d2 then decide (0 ≤ c3) else behind c2 d2
theorem rsq_nn (x : Rat) : 0 ≤ x * x := by
  rcases Rat.le_total (a := 0) (b := x) with h | h
  · exact Rat.mul_nonneg h h
  · have : 0 ≤ (-x) * (-x) := Rat.mul_nonneg (by grind) (by grind)
    grind
theorem rsq_pos {x : Rat} (h : x ≠ 0) : 0 < x * x := by
  have h1 := rsq_nn x
  have h2 : x * x ≠ 0 := by grind
  grind
theorem dt_nn (p : Rat × Rat) : 0 ≤ dt p p := by
  have := rsq_nn p.1
  have := rsq_nn p.2
  unfold dt
  grind
theorem dt_zero {p : Rat × Rat} (h : dt p p = 0) : p = (0, 0) := by
  have h1 := rsq_nn p.1
  have h2 := rsq_nn p.2
  unfold dt at h
  have e1 : p.1 = 0 := Classical.byContradiction fun z => by have := rsq_pos z; grind
  have e2 : p.2 = 0 := Classical.byContradiction fun z => by have := rsq_pos z; grind
  exact Prod.ext e1 e2
theorem sq_one {z : Rat} (h : z * z = 1) : z = 1 ∨ z = -1 := by
  have : (z - 1) * (z + 1) = 0 := by grind
  rcases Rat.mul_eq_zero.mp this with h | h
  · left; grind
  · right; grind
theorem behind_iff {c d : Rat} : behind c d = true ↔ c < 0 ∨ (c = 0 ∧ d < 0) := by
  unfold behind
  simp
theorem behind_not {c d : Rat} (h : ¬ (c < 0 ∨ (c = 0 ∧ d < 0))) : behind c d = false := by
  rw [← Bool.not_eq_true, behind_iff]
  exact h
theorem mul_lt_z {R c : Rat} (hR : 0 < R) : R * c < 0 ↔ c < 0 := by
  constructor
  · intro h
    apply Classical.byContradiction
    intro z
    have := Rat.mul_nonneg (Rat.le_of_lt hR) (show 0 ≤ c by grind)
    grind
  · intro h
    have := Rat.mul_pos hR (show 0 < -c by grind)
    grind
theorem mul_le_z {R c : Rat} (hR : 0 < R) : 0 ≤ R * c ↔ 0 ≤ c := by
  have := mul_lt_z (c := c) hR
  constructor
  · intro h
    apply Classical.byContradiction
    intro z
    have := this.mpr (by grind)
    grind
  · intro h
    exact Rat.mul_nonneg (Rat.le_of_lt hR) h
theorem mul_eq_z {R c : Rat} (hR : 0 < R) : R * c = 0 ↔ c = 0 := by
  constructor
  · intro h
    rcases Rat.mul_eq_zero.mp h with h | h
    · grind
    · exact h
  · intro h
    rw [h]
    grind
theorem behind_mul {R c d : Rat} (hR : 0 < R) : behind (R * c) (R * d) = behind c d := by
  unfold behind
  rw [decide_eq_decide.mpr (mul_lt_z hR), decide_eq_decide.mpr (mul_eq_z hR), decide_eq_decide.mpr (mul_lt_z hR)]
theorem soon_mul {R c1 d1 c2 d2 c3 : Rat} (hR : 0 < R) : soon (R * c1) (R * d1) (R * c2) (R * d2) (R * c3) = soon c1 d1 c2 d2 c3 := by
  unfold soon
  rw [behind_mul hR, behind_mul hR, decide_eq_decide.mpr (mul_le_z hR)]
/-- turned about: x y from b to t, u v from b to e, where e isn't b -/
theorem soon_rev {x y u v : Rat} (h1 : x * x + y * y = 1) (h2 : u * u + v * v = 1) (h3 : ¬ (u = 1 ∧ v = 0)) :
    soon y x v u (x * v - y * u) = soon (x * v - y * u) (x * u + y * v) v u y := by
  have hw : (x * v - y * u) * (x * v - y * u) + (x * u + y * v) * (x * u + y * v) = 1 := by
    have : (x * v - y * u) * (x * v - y * u) + (x * u + y * v) * (x * u + y * v) = (x * x + y * y) * (u * u + v * v) := by grind
    rw [this, h1, h2]; grind
  have hy : y = v * (x * u + y * v) - u * (x * v - y * u) := by
    have : v * (x * u + y * v) - u * (x * v - y * u) = y * (u * u + v * v) := by grind
    rw [this, h2]; grind
  have hx : x = u * (x * u + y * v) + v * (x * v - y * u) := by
    have : u * (x * u + y * v) + v * (x * v - y * u) = x * (u * u + v * v) := by grind
    rw [this, h2]; grind
  generalize hw1 : x * v - y * u = w at *
  generalize hz1 : x * u + y * v = z at *
  have y0 : y = 0 → x = 1 ∨ x = -1 := fun e => sq_one (by rw [e] at h1; grind)
  have v0 : v = 0 → u = 1 ∨ u = -1 := fun e => sq_one (by rw [e] at h2; grind)
  have w0 : w = 0 → z = 1 ∨ z = -1 := fun e => sq_one (by rw [e] at hw; grind)
  have zm : w = 0 → z = -1 → y = -v ∧ x = -u := fun e1 e2 => by rw [e1, e2] at hx hy; grind
  have xm : y = 0 → x = -1 → w = -v := fun e1 e2 => by rw [e1, e2] at hw1; grind
  clear hx hy hw h1 h2 hw1 hz1
  rw [Bool.eq_iff_iff]
  unfold soon
  by_cases H2 : v < 0 ∨ (v = 0 ∧ u < 0)
  · rw [behind_iff.mpr H2]
    by_cases H1 : y < 0 ∨ (y = 0 ∧ x < 0)
    · rw [behind_iff.mpr H1]
      by_cases G1 : w < 0 ∨ (w = 0 ∧ z < 0)
      · rw [behind_iff.mpr G1]
        simp
        grind
      · rw [behind_not G1]
        simp
        grind
    · rw [behind_not H1]
      by_cases G1 : w < 0 ∨ (w = 0 ∧ z < 0)
      · rw [behind_iff.mpr G1]
        simp
        grind
      · rw [behind_not G1]
        simp
  · rw [behind_not H2]
    by_cases H1 : y < 0 ∨ (y = 0 ∧ x < 0)
    · rw [behind_iff.mpr H1]
      by_cases G1 : w < 0 ∨ (w = 0 ∧ z < 0)
      · rw [behind_iff.mpr G1]
        simp
      · rw [behind_not G1]
        simp
        grind
    · rw [behind_not H1]
      by_cases G1 : w < 0 ∨ (w = 0 ∧ z < 0)
      · rw [behind_iff.mpr G1]
        simp
        grind
      · rw [behind_not G1]
        simp
        grind
/-- on a line -/
def onLine (b e p : Rat × Rat) : Bool := decide (cr (sb2 e b) (sb2 p b) = 0) && (decide (0 ≤ dt (sb2 p b) (sb2 e b) / dt (sb2 e b) (sb2 e b)) && decide (dt (sb2 p b) (sb2 e b) / dt (sb2 e b) (sb2 e b) ≤ 1))
/-- on an arc about c -/
def onArc (b e c : Rat × Rat) (w : Int) (p : Rat × Rat) : Bool := decide (dt (sb2 c p) (sb2 c p) = dt (sb2 c b) (sb2 c b)) && (decide (b = e) ||
  soon (cr (sb2 b c) (sb2 p c) * w) (dt (sb2 b c) (sb2 p c)) (cr (sb2 b c) (sb2 e c) * w) (dt (sb2 b c) (sb2 e c)) (cr (sb2 p c) (sb2 e c) * w))
/-! isometries -/
theorem fwd_sub (f : DL.Fr) (p q : Rat × Rat) : sb2 (DL.fwd true f p) (DL.fwd true f q) = DL.fwd false f (sb2 p q) := by
  cases f with
  | shift a b => exact Prod.ext (by simp only [DL.fwd, sb2, if_true]; simp; grind) (by simp only [DL.fwd, sb2, if_true]; simp; grind)
  | turn s t => exact Prod.ext (by simp only [DL.fwd, sb2]; grind) (by simp only [DL.fwd, sb2]; grind)
  | flip => exact Prod.ext rfl (by simp only [DL.fwd, sb2]; grind)
def sgF : DL.Fr → Rat
  | .flip => -1
  | _ => 1
theorem fwd_dt {f : DL.Fr} (h : DL.FrOk f) (p q : Rat × Rat) : dt (DL.fwd false f p) (DL.fwd false f q) = dt p q := by
  cases f with
  | shift a b => rfl
  | turn s t =>
    have h1 := hd_one h.1
    simp only [DL.fwd, dt]
    generalize hdc s t = c at *
    generalize hds s t = u at *
    grind
  | flip => simp only [DL.fwd, dt]; grind
theorem fwd_cr {f : DL.Fr} (h : DL.FrOk f) (p q : Rat × Rat) : cr (DL.fwd false f p) (DL.fwd false f q) = sgF f * cr p q := by
  cases f with
  | shift a b => simp only [DL.fwd, cr, sgF]; simp
  | turn s t =>
    have h1 := hd_one h.1
    simp only [DL.fwd, cr, sgF]
    generalize hdc s t = c at *
    generalize hds s t = u at *
    grind
  | flip => simp only [DL.fwd, cr, sgF]; grind
theorem led_sub (fs : List DL.Fr) (p q : Rat × Rat) : sb2 (DL.led true fs p) (DL.led true fs q) = DL.led false fs (sb2 p q) := by
  induction fs with
  | nil => rfl
  | cons f fs ih =>
    show sb2 (DL.fwd true f _) (DL.fwd true f _) = DL.fwd false f _
    rw [fwd_sub]
    exact congrArg _ ih
theorem led_dt {fs : List DL.Fr} (h : ∀ f ∈ fs, DL.FrOk f) (p q : Rat × Rat) : dt (DL.led false fs p) (DL.led false fs q) = dt p q := by
  induction fs with
  | nil => rfl
  | cons f fs ih =>
    show dt (DL.fwd false f _) (DL.fwd false f _) = _
    rw [fwd_dt (h f List.mem_cons_self)]
    exact ih fun g z => h g (List.mem_cons_of_mem _ z)
def sgFs (fs : List DL.Fr) : Rat := (fs.map sgF).foldr (· * ·) 1
theorem led_cr {fs : List DL.Fr} (h : ∀ f ∈ fs, DL.FrOk f) (p q : Rat × Rat) : cr (DL.led false fs p) (DL.led false fs q) = sgFs fs * cr p q := by
  induction fs with
  | nil => show cr p q = 1 * cr p q; grind
  | cons f fs ih =>
    show cr (DL.fwd false f _) (DL.fwd false f _) = (sgF f * sgFs fs) * _
    rw [fwd_cr (h f List.mem_cons_self)]
    have := ih fun g z => h g (List.mem_cons_of_mem _ z)
    unfold DL.led at this
    rw [this]
    grind
end DM
namespace DL
open PySem PySem.Spec L2 DM
def isFl : Fr → Bool
  | .flip => true
  | _ => false
def nfl (fs : List Fr) : Nat := (fs.filter isFl).length
theorem sgFs_eq (fs : List Fr) : sgFs fs = if ((nfl fs : Nat) : Int).fmod 2 == 1 then -1 else 1 := by
  induction fs with
  | nil => rfl
  | cons f fs ih =>
    have e : sgFs (f :: fs) = sgF f * sgFs fs := rfl
    rw [e, ih]
    cases f with
    | shift a b =>
      have : nfl (Fr.shift a b :: fs) = nfl fs := rfl
      rw [this]
      show 1 * _ = _
      grind
    | turn a b =>
      have : nfl (Fr.turn a b :: fs) = nfl fs := rfl
      rw [this]
      show 1 * _ = _
      grind
    | flip =>
      have : nfl (Fr.flip :: fs) = nfl fs + 1 := rfl
      rw [this]
      show -1 * _ = _
      generalize nfl fs = n
      rw [Int.fmod_eq_emod_of_nonneg _ (by omega), Int.fmod_eq_emod_of_nonneg _ (by omega)]
      rcases (show (n : Int) % 2 = 0 ∨ (n : Int) % 2 = 1 by omega) with h | h
      · have h2 : ((n + 1 : Nat) : Int) % 2 = 1 := by omega
        rw [h, h2]
        simp
      · have h2 : ((n + 1 : Nat) : Int) % 2 = 0 := by omega
        rw [h, h2]
        simp
        grind
theorem nfl_app (fs gs : List Fr) : nfl (fs ++ gs) = nfl fs + nfl gs := by
  unfold nfl
  rw [List.filter_append, List.length_append]
theorem fl_take {fs : List Fr} {j : Nat} {f : Fr} (h : fs[j]? = some f) : (fs.take (j + 1)).filter isFl = if isFl f then (fs.take j).filter isFl ++ [f] else (fs.take j).filter isFl := by
  rw [List.take_add_one, h, Option.toList_some, List.filter_append]
  cases e : isFl f <;> simp [e]
theorem fl_len (fs : List Fr) (j : Nat) : ((fs.take j).filter isFl).length ≤ fs.length := Nat.le_trans (List.length_filter_le _ _) (by rw [List.length_take]; omega)
def f_about : FP := fn1 frsD (fun fs => fs.length ≤ 1000) (fun fs => .bool (((nfl fs : Nat) : Int).fmod 2 == 1))
instance : FMono f_about := fm1
/-! draws of the laws -/
def f_farb : FB := bg0 4 numD (fun u => Bd 20 u ∧ 0 < u)
instance : BMono f_farb := bm0
theorem farb_at {xs : List PyData} {n : Nat} {Q : Res → List PyData → Prop} (hb : BagOk n xs) (hn : n + 4 ≤ mostDraws) (h : ∀ (u : Rat) xs', Bd 20 u → 0 < u → BagOk (n + 4) xs' → Q (.d (numD u)) xs') : f_farb xs [] Q :=
  ⟨n, hb, hn, rfl, fun p xs' e b => h p xs' e.1 e.2 b⟩
def f_spot : FB := bg0 7 plD (Bd2 20)
instance : BMono f_spot := bm0
theorem spot_at {xs : List PyData} {n : Nat} {Q : Res → List PyData → Prop} (hb : BagOk n xs) (hn : n + 7 ≤ mostDraws) (h : ∀ (x y : Rat) xs', Bd 20 x → Bd 20 y → BagOk (n + 7) xs' → Q (.d (.tuple [numD x, numD y])) xs') : f_spot xs [] Q :=
  ⟨n, hb, hn, rfl, fun p xs' e b => h p.1 p.2 xs' e.1 e.2 b⟩
/-- a law's part that draws and tells True -/
def f_tells (c : Nat) : FB := bg0 c PyData.bool (fun k => k = true)
instance {c : Nat} : BMono (f_tells c) := bm0
theorem tells_at {c : Nat} {xs : List PyData} {n : Nat} {Q : Res → List PyData → Prop} (hb : BagOk n xs) (hn : n + c ≤ mostDraws) (h : ∀ xs', BagOk (n + c) xs' → Q (.d (.bool true)) xs') : f_tells c xs [] Q :=
  ⟨n, hb, hn, rfl, fun p xs' e b => by subst e; exact h xs' b⟩
def f_contrary : FP := fn1 plD (fun p => True) (fun p => plD (-p.1, -p.2))
instance : FMono f_contrary := fm1
theorem ap_contrary {a b : Rat} {Q : Res → Prop} : f_contrary [.tuple [numD a, numD b]] Q = (True ∧ Q (.d (.tuple [numD (-a), numD (-b)]))) := fn1_ap (x := (a, b)) pl_inj
/-! cuts -/
def f_headto : FP := fun ds Q => ∃ (a b c d r : Rat), ds = [.tuple [numD a, numD b], .tuple [numD c, numD d]] ∧ (Bd 200 a ∧ Bd 200 b ∧ Bd 200 c ∧ Bd 200 d) ∧ r ≠ 0 ∧ rt ((a - c) * (a - c) + (b - d) * (b - d)) = some r ∧ Q (.d (.tuple [numD ((c - a) * (1 / r)), numD ((d - b) * (1 / r))]))
theorem fm_headto : FMono f_headto := ⟨fun ds Q Q' hq ⟨a, b, c, d, r, h1, h2, h3, h4, h5⟩ => ⟨a, b, c, d, r, h1, h2, h3, h4, hq _ h5⟩⟩
instance : FMono f_headto := fm_headto
theorem ln_headto : ∀ ds Q, f_headto ds Q → ds.length = 2 := fun ds Q ⟨a, b, c, d, r, h1, _⟩ => by rw [h1]; rfl
def arcD (a b c d e f : Rat) (w : Int) : PyData := .tuple [.str "arc", .tuple [numD a, numD b], .tuple [numD c, numD d], .tuple [numD e, numD f], .int w]
/-- the radius of an arc: e f is the middle -/
def ArcOk (a b c d e f : Rat) (w : Int) (r : Rat) : Prop := (Bd 200 a ∧ Bd 200 b ∧ Bd 200 c ∧ Bd 200 d ∧ Bd 200 e ∧ Bd 200 f) ∧ (w = 1 ∨ w = -1) ∧ r ≠ 0 ∧ rt ((e - a) * (e - a) + (f - b) * (f - b)) = some r
def f_radius : FP := fun ds Q => ∃ (a b c d e f : Rat) (w : Int) (r : Rat), ds = [arcD a b c d e f w] ∧ ArcOk a b c d e f w r ∧ Q (.d (numD r))
theorem fm_radius : FMono f_radius := ⟨fun ds Q Q' hq ⟨a, b, c, d, e, f, w, r, h1, h2, h3⟩ => ⟨a, b, c, d, e, f, w, r, h1, h2, hq _ h3⟩⟩
instance : FMono f_radius := fm_radius
theorem ln_radius : ∀ ds Q, f_radius ds Q → ds.length = 1 := fun ds Q ⟨a, b, c, d, e, f, w, r, h1, _⟩ => by rw [h1]; rfl
def f_headat : FP := fun ds Q => ∃ (a b c d e f : Rat) (w : Int) (r x y : Rat), ds = [arcD a b c d e f w, .tuple [numD x, numD y]] ∧ ArcOk a b c d e f w r ∧ (Bd 200 x ∧ Bd 200 y) ∧ Q (.d (.tuple [numD (-(y - f) * ((w : Rat) / r)), numD ((x - e) * ((w : Rat) / r))]))
theorem fm_headat : FMono f_headat := ⟨fun ds Q Q' hq ⟨a, b, c, d, e, f, w, r, x, y, h1, h2, h3, h4⟩ => ⟨a, b, c, d, e, f, w, r, x, y, h1, h2, h3, hq _ h4⟩⟩
instance : FMono f_headat := fm_headat
theorem ln_headat : ∀ ds Q, f_headat ds Q → ds.length = 2 := fun ds Q ⟨a, b, c, d, e, f, w, r, x, y, h1, _⟩ => by rw [h1]; rfl
def f_headings : FP := fun ds Q => (∃ (a b c d r : Rat), ds = [.tuple [.str "line", .tuple [numD a, numD b], .tuple [numD c, numD d]]] ∧ (Bd 200 a ∧ Bd 200 b ∧ Bd 200 c ∧ Bd 200 d) ∧ r ≠ 0 ∧ rt ((a - c) * (a - c) + (b - d) * (b - d)) = some r ∧ Q (.d (.tuple [.tuple [numD ((c - a) * (1 / r)), numD ((d - b) * (1 / r))], .tuple [numD ((c - a) * (1 / r)), numD ((d - b) * (1 / r))]])))
  ∨ (∃ (a b c d e f : Rat) (w : Int) (r : Rat), ds = [arcD a b c d e f w] ∧ ArcOk a b c d e f w r ∧ Q (.d (.tuple [.tuple [numD (-(b - f) * ((w : Rat) / r)), numD ((a - e) * ((w : Rat) / r))], .tuple [numD (-(d - f) * ((w : Rat) / r)), numD ((c - e) * ((w : Rat) / r))]])))
theorem fmx_headings : FMono f_headings := ⟨fun ds Q Q' hq h => by
  rcases h with ⟨a, b, c, d, r, h1, h2, h3, h4, h5⟩ | ⟨a, b, c, d, e, f, w, r, h1, h2, h3⟩
  · exact .inl ⟨a, b, c, d, r, h1, h2, h3, h4, hq _ h5⟩
  · exact .inr ⟨a, b, c, d, e, f, w, r, h1, h2, hq _ h3⟩⟩
instance : FMono f_headings := fmx_headings
theorem lnx_headings : ∀ ds Q, f_headings ds Q → ds.length = 1 := fun ds Q h => by
  rcases h with ⟨a, b, c, d, r, h1, _⟩ | ⟨a, b, c, d, e, f, w, r, h1, _⟩
  · rw [h1]; rfl
  · rw [h1]; rfl
theorem w_bd {w : Int} (h : w = 1 ∨ w = -1) : Bd 2 (w : Rat) := by
  rcases h with rfl | rfl
  · exact ⟨by decide, by decide⟩
  · exact ⟨by decide, by decide⟩
/-! places on cuts -/
def f_behind : FP := fn3 plD plD PyData.int (fun p q w => Bd2 900 p ∧ Bd2 900 q ∧ (w = 1 ∨ w = -1)) (fun p q w => .bool (behind (cr p q * w) (dt p q)))
instance : FMono f_behind := fm3
theorem ap_behind {a b c d : Rat} {w : Int} {Q : Res → Prop} : f_behind [.tuple [numD a, numD b], .tuple [numD c, numD d], .int w] Q = (((Bd 900 a ∧ Bd 900 b) ∧ (Bd 900 c ∧ Bd 900 d) ∧ (w = 1 ∨ w = -1)) ∧ Q (.d (.bool (behind ((a * d - b * c) * w) (a * c + b * d))))) := fn3_ap (x := (a, b)) (y := (c, d)) pl_inj pl_inj int_inj
def f_sooner : FP := fn4 plD plD plD PyData.int (fun p q l w => Bd2 900 p ∧ Bd2 900 q ∧ Bd2 900 l ∧ (w = 1 ∨ w = -1)) (fun p q l w => .bool (soon (cr p q * w) (dt p q) (cr p l * w) (dt p l) (cr q l * w)))
instance : FMono f_sooner := fm4
theorem ap_sooner {a b c d e f : Rat} {w : Int} {Q : Res → Prop} : f_sooner [.tuple [numD a, numD b], .tuple [numD c, numD d], .tuple [numD e, numD f], .int w] Q = (((Bd 900 a ∧ Bd 900 b) ∧ (Bd 900 c ∧ Bd 900 d) ∧ (Bd 900 e ∧ Bd 900 f) ∧ (w = 1 ∨ w = -1)) ∧ Q (.d (.bool (soon ((a * d - b * c) * w) (a * c + b * d) ((a * f - b * e) * w) (a * e + b * f) ((c * f - d * e) * w))))) := fn4_ap (x := (a, b)) (y := (c, d)) (z := (e, f)) pl_inj pl_inj pl_inj int_inj
def f_onarc : FP := fun ds Q => ∃ (a b c d e f : Rat) (w : Int) (r x y : Rat), ds = [arcD a b c d e f w, .tuple [numD x, numD y]] ∧ ArcOk a b c d e f w r ∧ (Bd 400 x ∧ Bd 400 y) ∧ Q (.d (.bool (onArc (a, b) (c, d) (e, f) w (x, y))))
theorem fm_onarc : FMono f_onarc := ⟨fun ds Q Q' hq ⟨a, b, c, d, e, f, w, r, x, y, h1, h2, h3, h4⟩ => ⟨a, b, c, d, e, f, w, r, x, y, h1, h2, h3, hq _ h4⟩⟩
instance : FMono f_onarc := fm_onarc
theorem ln_onarc : ∀ ds Q, f_onarc ds Q → ds.length = 2 := fun ds Q ⟨a, b, c, d, e, f, w, r, x, y, h1, _⟩ => by rw [h1]; rfl
def lineD (a b c d : Rat) : PyData := .tuple [.str "line", .tuple [numD a, numD b], .tuple [numD c, numD d]]
def f_lies : FP := fun ds Q => f_onarc ds Q ∨ (∃ (a b c d x y : Rat), ds = [lineD a b c d, .tuple [numD x, numD y]] ∧ (Bd 200 a ∧ Bd 200 b ∧ Bd 200 c ∧ Bd 200 d) ∧ ¬ (a = c ∧ b = d) ∧ (Bd 400 x ∧ Bd 400 y) ∧ Q (.d (.bool (onLine (a, b) (c, d) (x, y)))))
theorem fm_lies : FMono f_lies := ⟨fun ds Q Q' hq h => by
  rcases h with h | ⟨a, b, c, d, x, y, h1, h2, h3, h4, h5⟩
  · exact .inl (fm_onarc.m _ _ _ hq h)
  · exact .inr ⟨a, b, c, d, x, y, h1, h2, h3, h4, hq _ h5⟩⟩
instance : FMono f_lies := fm_lies
theorem ln_lies : ∀ ds Q, f_lies ds Q → ds.length = 2 := fun ds Q h => by
  rcases h with h | ⟨a, b, c, d, x, y, h1, _⟩
  · exact ln_onarc ds Q h
  · rw [h1]; rfl
/-- signs by the top -/
theorem num_w_lt {x : Rat} {w : Int} (h : w = 1 ∨ w = -1) : (x.num * w < 0) ↔ (x * w < 0) := by
  have e3 := Rat.num_nonneg (q := x)
  have e4 := Rat.num_eq_zero (q := x)
  have e1 : x.num < 0 ↔ x < 0 := ⟨fun h => by
    apply Classical.byContradiction
    intro z
    have := e3.mpr (by grind)
    omega, fun h => by
    apply Classical.byContradiction
    intro z
    have := e3.mp (by omega)
    grind⟩
  have e2 : 0 < x.num ↔ 0 < x := ⟨fun h => by
    have h1 := e3.mp (by omega)
    have h2 : x ≠ 0 := fun e => by
      have := e4.mpr e
      omega
    grind, fun h => by
    have h1 := e3.mpr (by grind)
    have h2 : x.num ≠ 0 := fun e => by
      have := e4.mp e
      grind
    omega⟩
  rcases h with rfl | rfl
  · rw [Int.mul_one, e1, show (((1 : Int) : Rat)) = 1 from rfl]
    grind
  · rw [show x.num * -1 = -x.num by omega, show (((-1 : Int) : Rat)) = -1 from rfl]
    constructor
    · intro h
      have := e2.mp (by omega)
      grind
    · intro h
      have := e2.mpr (by grind)
      omega
theorem num_w_z {x : Rat} {w : Int} (h : w = 1 ∨ w = -1) : (x.num * w = 0) ↔ (x * w = 0) := by
  have e1 := Rat.num_eq_zero (q := x)
  rcases h with rfl | rfl
  · rw [Int.mul_one, e1, show (((1 : Int) : Rat)) = 1 from rfl]
    grind
  · rw [show x.num * -1 = -x.num by omega, show (((-1 : Int) : Rat)) = -1 from rfl]
    constructor
    · intro h
      have := e1.mp (by omega)
      grind
    · intro h
      have := e1.mpr (by grind)
      omega
theorem num_w_le {x : Rat} {w : Int} (h : w = 1 ∨ w = -1) : (0 ≤ x.num * w) ↔ (0 ≤ x * w) := by
  have := num_w_lt (x := x) h
  constructor
  · intro z
    apply Classical.byContradiction
    intro y
    have := this.mpr (by grind)
    omega
  · intro z
    apply Classical.byContradiction
    intro y
    have := this.mp (by omega)
    grind
end DL

namespace DM
theorem dI_lt {a m : Int} (hm : 0 < m) : Rat.divInt a m < 0 ↔ a < 0 := by
  have e : Rat.divInt a m = (a : Rat) / (m : Rat) := Rat.divInt_eq_div a m
  have h0 : (0 : Rat) < (m : Rat) := by
    rw [show (0 : Rat) = ((0 : Int) : Rat) from rfl]
    exact Rat.intCast_lt_intCast.mpr hm
  have e2 : (a : Rat) = (m : Rat) * Rat.divInt a m := by rw [e]; grind
  have h2 := mul_lt_z (R := (m : Rat)) (c := Rat.divInt a m) h0
  rw [← h2, ← e2, show (0 : Rat) = ((0 : Int) : Rat) from rfl]
  exact Rat.intCast_lt_intCast
theorem dI_z {a m : Int} (hm : 0 < m) : Rat.divInt a m = 0 ↔ a = 0 := by
  have h2 := mul_eq_z (R := (m : Rat)) (c := Rat.divInt a m) (by
    rw [show (0 : Rat) = ((0 : Int) : Rat) from rfl]
    exact Rat.intCast_lt_intCast.mpr hm)
  have e2 : (a : Rat) = (m : Rat) * Rat.divInt a m := by
    rw [Rat.divInt_eq_div]
    have h0 : (0 : Rat) < (m : Rat) := by
      rw [show (0 : Rat) = ((0 : Int) : Rat) from rfl]
      exact Rat.intCast_lt_intCast.mpr hm
    grind
  rw [← h2, ← e2]
  exact Rat.intCast_eq_zero_iff
theorem dI_le {a m : Int} (hm : 0 < m) : 0 ≤ Rat.divInt a m ↔ 0 ≤ a := by
  have := dI_lt (a := a) hm
  constructor
  · intro h
    apply Classical.byContradiction
    intro z
    have := this.mpr (by omega)
    grind
  · intro h
    apply Classical.byContradiction
    intro z
    have := this.mp (by grind)
    omega
theorem mul_sg_pos {a b : Int} (ha : 0 < a) : (0 ≤ a * b ↔ 0 ≤ b) ∧ (a * b < 0 ↔ b < 0) := by
  have h1 : 0 ≤ a * b ↔ 0 ≤ b := by
    constructor
    · intro h
      apply Classical.byContradiction
      intro z
      have := Int.mul_pos ha (show 0 < -b by omega)
      rw [Int.mul_neg] at this
      omega
    · intro h
      exact Int.mul_nonneg (by omega) h
  exact ⟨h1, by omega⟩
theorem behind_hd {p q : Int} (hp : 0 ≤ p) (h : p ≠ 0 ∨ q ≠ 0) : behind (hds p q) (hdc p q) = decide (0 < p ∧ q ≤ 0) := by
  have hm := two_pos h
  rw [Bool.eq_iff_iff, behind_iff, decide_eq_true_eq]
  unfold hds hdc
  rw [dI_lt hm, dI_z hm, dI_lt hm]
  rcases Int.lt_or_eq_of_le hp with z | z
  · have h1 := mul_sg_pos (a := 2 * p) (b := q) (by omega)
    rw [h1.2]
    constructor
    · rintro (h | ⟨h, _⟩)
      · omega
      · rcases Int.mul_eq_zero.mp h with h | h <;> omega
    · rintro ⟨_, h⟩
      rcases Int.lt_or_eq_of_le h with h | h
      · exact .inl h
      · right
        rw [h]
        have := sq_pos (p := p) (by omega)
        omega
  · rw [← z]
    constructor
    · rintro (h | ⟨h, h'⟩)
      · omega
      · have := sq_nn q
        omega
    · omega
theorem hd_cross (p q P Q : Int) (h : p ≠ 0 ∨ q ≠ 0) (H : P ≠ 0 ∨ Q ≠ 0) : hdc p q * hds P Q - hds p q * hdc P Q = Rat.divInt (2 * ((q * Q + p * P) * (q * P - Q * p))) ((p * p + q * q) * (P * P + Q * Q)) := by
  have z1 := DL.rz (two_pos h)
  have z2 := DL.rz (two_pos H)
  unfold hdc hds
  simp only [Rat.divInt_eq_div, Rat.intCast_mul, Rat.intCast_add, Rat.intCast_sub] at z1 z2 ⊢
  generalize (p : Rat) = a at *
  generalize (q : Rat) = b at *
  generalize (P : Rat) = A at *
  generalize (Q : Rat) = B at *
  rw [show (((2 : Int) : Rat)) = 2 from rfl]
  have z3 : (a * a + b * b) * (A * A + B * B) ≠ 0 := fun e => by
    rcases Rat.mul_eq_zero.mp e with e | e
    · exact z1 e
    · exact z2 e
  grind
theorem half {p q P Q : Int} (hp : 0 ≤ p) (h : p ≠ 0 ∨ q ≠ 0) (hP : 0 < P) : soon (hds p q) (hdc p q) (hds P Q) (hdc P Q) (hdc p q * hds P Q - hds p q * hdc P Q) = (decide (p = 0) || decide (Q * p ≤ q * P)) := by
  have H : P ≠ 0 ∨ Q ≠ 0 := .inl (by omega)
  unfold soon
  rw [behind_hd hp h, behind_hd (by omega) H, hd_cross p q P Q h H, decide_eq_decide.mpr (dI_le (Int.mul_pos (two_pos h) (two_pos H)))]
  have c0 : (0 ≤ 2 * ((q * Q + p * P) * (q * P - Q * p)) ↔ 0 ≤ (q * Q + p * P) * (q * P - Q * p)) := by omega
  rw [show decide (0 ≤ 2 * ((q * Q + p * P) * (q * P - Q * p))) = decide (0 ≤ (q * Q + p * P) * (q * P - Q * p)) from decide_eq_decide.mpr c0]
  rcases Int.lt_or_eq_of_le hp with z | z
  · have e0 : decide (p = 0) = false := decide_eq_false (by omega)
    have pP := Int.mul_pos z hP
    rw [e0, Bool.false_or]
    by_cases hq : q ≤ 0
    · have e1 : decide (0 < p ∧ q ≤ 0) = true := decide_eq_true ⟨z, hq⟩
      rw [e1]
      by_cases hQ : Q ≤ 0
      · have e2 : decide (0 < P ∧ Q ≤ 0) = true := decide_eq_true ⟨hP, hQ⟩
        rw [e2, if_pos rfl]
        have := Int.mul_nonneg_of_nonpos_of_nonpos hq hQ
        rw [decide_eq_decide, (mul_sg_pos (a := q * Q + p * P) (b := q * P - Q * p) (by omega)).1]
        omega
      · have e2 : decide (0 < P ∧ Q ≤ 0) = false := decide_eq_false (by omega)
        rw [e2, if_neg (by decide)]
        have a1 := Int.mul_pos (show 0 < Q by omega) z
        have a2 := Int.mul_nonneg (show 0 ≤ -q by omega) (show 0 ≤ P by omega)
        rw [Int.neg_mul] at a2
        exact (decide_eq_false (by omega)).symm
    · have e1 : decide (0 < p ∧ q ≤ 0) = false := decide_eq_false (by omega)
      rw [e1]
      by_cases hQ : Q ≤ 0
      · have e2 : decide (0 < P ∧ Q ≤ 0) = true := decide_eq_true ⟨hP, hQ⟩
        rw [e2, if_neg (by decide)]
        have a1 := Int.mul_pos (show 0 < q by omega) hP
        have a2 := Int.mul_nonneg (show 0 ≤ -Q by omega) (show 0 ≤ p by omega)
        rw [Int.neg_mul] at a2
        exact (decide_eq_true (by omega)).symm
      · have e2 : decide (0 < P ∧ Q ≤ 0) = false := decide_eq_false (by omega)
        rw [e2, if_pos rfl]
        have := Int.mul_pos (show 0 < q by omega) (show 0 < Q by omega)
        rw [decide_eq_decide, (mul_sg_pos (a := q * Q + p * P) (b := q * P - Q * p) (by omega)).1]
        omega
  · have hq : q ≠ 0 := by omega
    have e0 : decide (p = 0) = true := decide_eq_true z.symm
    have e1 : decide (0 < p ∧ q ≤ 0) = false := decide_eq_false (by omega)
    rw [e0, e1, Bool.true_or]
    by_cases hQ : Q ≤ 0
    · have e2 : decide (0 < P ∧ Q ≤ 0) = true := decide_eq_true ⟨hP, hQ⟩
      rw [e2, if_neg (by decide)]
    · have e2 : decide (0 < P ∧ Q ≤ 0) = false := decide_eq_false (by omega)
      rw [e2, if_pos rfl, decide_eq_true_eq, ← z]
      have e : (q * Q + 0 * P) * (q * P - Q * 0) = (q * q) * (Q * P) := by grind
      rw [e]
      exact Int.mul_nonneg (sq_nn q) (Int.mul_nonneg (by omega) (by omega))
theorem hdc_w {w p q : Int} (hw : w = 1 ∨ w = -1) : hdc (w * p) q = hdc p q := by
  rcases hw with rfl | rfl
  · rw [Int.one_mul]
  · rw [show -1 * p = 0 - p by omega, DL.hdc_neg]
theorem hds_w {w p q : Int} (hw : w = 1 ∨ w = -1) : hds (w * p) q = (w : Rat) * hds p q := by
  rcases hw with rfl | rfl
  · rw [Int.one_mul, show (((1 : Int) : Rat)) = 1 from rfl]; grind
  · rw [show -1 * p = 0 - p by omega, DL.hds_neg, show (((-1 : Int) : Rat)) = -1 from rfl]; grind
theorem w_sq {w : Int} (hw : w = 1 ∨ w = -1) : (w : Rat) * (w : Rat) = 1 := by
  rcases hw with rfl | rfl
  · rw [show (((1 : Int) : Rat)) = 1 from rfl]; grind
  · rw [show (((-1 : Int) : Rat)) = -1 from rfl]; grind
theorem hd_eq_one {p q : Int} (h : p ≠ 0 ∨ q ≠ 0) : (hdc p q = 1 ∧ hds p q = 0) ↔ p = 0 := by
  have hm := two_pos h
  unfold hdc hds
  rw [dI_z hm]
  constructor
  · rintro ⟨h1, h2⟩
    have e : Rat.divInt (q * q - p * p) (p * p + q * q) - 1 = 0 := by rw [h1]; grind
    have e3 : Rat.divInt (q * q - p * p) (p * p + q * q) - 1 = Rat.divInt (-(2 * (p * p))) (p * p + q * q) := by
      have hz : ((p * p + q * q : Int) : Rat) ≠ 0 := fun e => by
        have := Rat.intCast_eq_zero_iff.mp e
        omega
      simp only [Rat.divInt_eq_div, Rat.intCast_mul, Rat.intCast_add, Rat.intCast_sub, Rat.intCast_neg] at hz ⊢
      rw [show (((2 : Int) : Rat)) = 2 from rfl]
      grind
    rw [e3, dI_z hm] at e
    apply Classical.byContradiction
    intro z
    have := sq_pos z
    omega
  · rintro rfl
    refine ⟨?_, by omega⟩
    have hz : ((q * q : Int) : Rat) ≠ 0 := fun e => by
      have := Rat.intCast_eq_zero_iff.mp e
      have := sq_pos (p := q) (by omega)
      omega
    rw [show q * q - 0 * 0 = q * q by omega, show 0 * 0 + q * q = q * q by omega, Rat.divInt_eq_div]
    grind
/-- a place of an arc by its half angle -/
theorem arc_on {x y a b : Rat} {p q P Q w : Int} (hw : w = 1 ∨ w = -1) (hp : 0 ≤ p) (h : p ≠ 0 ∨ q ≠ 0) (hP : 0 ≤ P) (H : P ≠ 0 ∨ Q ≠ 0) (h0 : a * a + b * b ≠ 0) :
    onArc (x + a, y + b) (x + (a * hdc (w * P) Q - b * hds (w * P) Q), y + (a * hds (w * P) Q + b * hdc (w * P) Q)) (x, y) w (x + (a * hdc (w * p) q - b * hds (w * p) q), y + (a * hds (w * p) q + b * hdc (w * p) q)) =
      (decide (P = 0) || (decide (p = 0) || decide (Q * p ≤ q * P))) := by
  have ww := w_sq hw
  have o1 := hd_one h
  have o2 := hd_one H
  have hR : 0 < a * a + b * b := by
    have := rsq_nn a
    have := rsq_nn b
    grind
  rw [hdc_w hw, hdc_w hw, hds_w hw, hds_w hw]
  have hp1 := hd_eq_one H
  have hh : 0 < P → _ := half (q := q) (Q := Q) hp h
  have e3 := hd_cross p q P Q h H
  generalize hdc p q = c at *
  generalize hds p q = s at *
  generalize hdc P Q = C at *
  generalize hds P Q = S at *
  unfold onArc
  generalize (w : Rat) = v at *
  have k1 : dt (sb2 (x, y) (x + (a * c - b * (v * s)), y + (a * (v * s) + b * c))) (sb2 (x, y) (x + (a * c - b * (v * s)), y + (a * (v * s) + b * c))) = dt (sb2 (x, y) (x + a, y + b)) (sb2 (x, y) (x + a, y + b)) := by
    have : dt (sb2 (x, y) (x + (a * c - b * (v * s)), y + (a * (v * s) + b * c))) (sb2 (x, y) (x + (a * c - b * (v * s)), y + (a * (v * s) + b * c))) = (a * a + b * b) * (c * c + (v * v) * (s * s)) := by simp only [dt, sb2]; grind
    rw [this, ww, Rat.one_mul, o1]
    simp only [dt, sb2]
    grind
  rw [decide_eq_true k1, Bool.true_and]
  have k2 : ((x + a, y + b) = (x + (a * C - b * (v * S)), y + (a * (v * S) + b * C))) ↔ P = 0 := by
    rw [← hp1]
    constructor
    · intro e
      injection e with e1 e2
      have q1 : a * C - b * (v * S) = a := by grind
      have q2 : a * (v * S) + b * C = b := by grind
      have r1 : (a * a + b * b) * C = (a * a + b * b) * 1 := by
        have : (a * a + b * b) * C = a * (a * C - b * (v * S)) + b * (a * (v * S) + b * C) := by grind
        rw [this, q1, q2]
        grind
      have r2 : (a * a + b * b) * (v * S) = 0 := by
        have : (a * a + b * b) * (v * S) = a * (a * (v * S) + b * C) - b * (a * C - b * (v * S)) := by grind
        rw [this, q1, q2]
        grind
      have r3 : (a * a + b * b) * (C - 1) = 0 := by grind
      have r4 := (mul_eq_z hR).mp r3
      have r5 := (mul_eq_z hR).mp r2
      refine ⟨by grind, ?_⟩
      have : S = (v * v) * S := by rw [ww]; grind
      rw [this]
      grind
    · rintro ⟨rfl, rfl⟩
      exact Prod.ext (by simp only; grind) (by simp only; grind)
  rw [decide_eq_decide.mpr k2]
  by_cases z : P = 0
  · rw [decide_eq_true z, Bool.true_or, Bool.true_or]
  · rw [decide_eq_false z, Bool.false_or, Bool.false_or, ← hh (by omega)]
    have m1 : cr (sb2 (x + a, y + b) (x, y)) (sb2 (x + (a * c - b * (v * s)), y + (a * (v * s) + b * c)) (x, y)) * v = (a * a + b * b) * s := by
      have : cr (sb2 (x + a, y + b) (x, y)) (sb2 (x + (a * c - b * (v * s)), y + (a * (v * s) + b * c)) (x, y)) * v = (a * a + b * b) * ((v * v) * s) := by simp only [cr, sb2]; grind
      rw [this, ww, Rat.one_mul]
    have m2 : cr (sb2 (x + a, y + b) (x, y)) (sb2 (x + (a * C - b * (v * S)), y + (a * (v * S) + b * C)) (x, y)) * v = (a * a + b * b) * S := by
      have : cr (sb2 (x + a, y + b) (x, y)) (sb2 (x + (a * C - b * (v * S)), y + (a * (v * S) + b * C)) (x, y)) * v = (a * a + b * b) * ((v * v) * S) := by simp only [cr, sb2]; grind
      rw [this, ww, Rat.one_mul]
    have m3 : dt (sb2 (x + a, y + b) (x, y)) (sb2 (x + (a * c - b * (v * s)), y + (a * (v * s) + b * c)) (x, y)) = (a * a + b * b) * c := by simp only [dt, sb2]; grind
    have m4 : dt (sb2 (x + a, y + b) (x, y)) (sb2 (x + (a * C - b * (v * S)), y + (a * (v * S) + b * C)) (x, y)) = (a * a + b * b) * C := by simp only [dt, sb2]; grind
    have m5 : cr (sb2 (x + (a * c - b * (v * s)), y + (a * (v * s) + b * c)) (x, y)) (sb2 (x + (a * C - b * (v * S)), y + (a * (v * S) + b * C)) (x, y)) * v = (a * a + b * b) * (c * S - s * C) := by
      have : cr (sb2 (x + (a * c - b * (v * s)), y + (a * (v * s) + b * c)) (x, y)) (sb2 (x + (a * C - b * (v * S)), y + (a * (v * S) + b * C)) (x, y)) * v = (a * a + b * b) * ((v * v) * (c * S - s * C)) := by simp only [cr, sb2]; grind
      rw [this, ww, Rat.one_mul]
    rw [m1, m2, m3, m4, m5, soon_mul hR]
theorem arc_off {x y a b : Rat} {B E : Rat × Rat} {w : Int} (h : a * a + b * b ≠ dt (sb2 (x, y) B) (sb2 (x, y) B)) : onArc B E (x, y) w (x + a, y + b) = false := by
  unfold onArc
  rw [decide_eq_false, Bool.false_and]
  intro e
  apply h
  rw [← e]
  simp only [dt, sb2]
  grind
theorem line_on {x y a b S : Rat} (h0 : a * a + b * b ≠ 0) : onLine (x, y) (x + a, y + b) (x + a * S, y + b * S) = (decide (0 ≤ S) && decide (S ≤ 1)) := by
  unfold onLine
  have k1 : cr (sb2 (x + a, y + b) (x, y)) (sb2 (x + a * S, y + b * S) (x, y)) = 0 := by simp only [cr, sb2]; grind
  have k2 : dt (sb2 (x + a * S, y + b * S) (x, y)) (sb2 (x + a, y + b) (x, y)) = (a * a + b * b) * S := by simp only [dt, sb2]; grind
  have k3 : dt (sb2 (x + a, y + b) (x, y)) (sb2 (x + a, y + b) (x, y)) = a * a + b * b := by simp only [dt, sb2]; grind
  have k4 : (a * a + b * b) * S / (a * a + b * b) = S := by grind
  rw [decide_eq_true k1, Bool.true_and, k2, k3, k4]
theorem line_off {x y a b S T : Rat} (h0 : a * a + b * b ≠ 0) (hT : T ≠ 0) : onLine (x, y) (x + a, y + b) (x + a * S + -b * T, y + b * S + a * T) = false := by
  unfold onLine
  have k1 : cr (sb2 (x + a, y + b) (x, y)) (sb2 (x + a * S + -b * T, y + b * S + a * T) (x, y)) = (a * a + b * b) * T := by simp only [cr, sb2]; grind
  rw [decide_eq_false, Bool.false_and]
  rw [k1]
  intro e
  rcases Rat.mul_eq_zero.mp e with e | e
  · exact h0 e
  · exact hT e
theorem share_le {S : Rat} : decide (S.num ≤ (S.den : Int)) = decide (S ≤ 1) := by
  rw [decide_eq_decide, Rat.le_iff]
  show _ ↔ S.num * ((1 : Nat) : Int) ≤ 1 * (S.den : Int)
  omega
theorem share_nn {S : Rat} : decide (0 ≤ S.num) = decide (0 ≤ S) := decide_eq_decide.mpr Rat.num_nonneg
end DM
namespace DL
open PySem PySem.Spec L2 DM
theorem num_lt0 {x : Rat} : (x.num < 0) ↔ (x < 0) := by
  have := num_w_lt (x := x) (w := 1) (.inl rfl)
  rw [Int.mul_one, show (((1 : Int) : Rat)) = 1 from rfl, Rat.mul_one] at this
  exact this
theorem opt_eqv {o : Option Rat} {r : Rat} : PyData.eqv (optD o) (numD r) = decide (o = some r) := by
  cases o with
  | none => rfl
  | some u =>
    rw [optD_some, eqv_num, decide_eq_decide]
    exact ⟨fun e => by rw [e], fun e => Option.some.inj e⟩
theorem sh_opt {o : Option Rat} : SeqAt.shaped (optD o) = true := by
  cases o with
  | none => rfl
  | some u => rfl
theorem rt_iff {u r : Rat} : rt u = some r ↔ 0 ≤ r ∧ r * r = u := ⟨rt_some, fun h => rt_of h.1 h.2⟩
theorem rt_same {u v r : Rat} (h : rt v = some r) : (rt u = some r) ↔ u = v := by
  have h1 := rt_some h
  rw [rt_iff]
  constructor
  · intro z
    rw [← z.2, h1.2]
  · rintro rfl
    exact h1
theorem dI_neg0 {u : Rat} : Rat.divInt (0 - u.num) (u.den : Int) = -u := by
  rw [Int.zero_sub, dI_neg, Rat.num_divInt_den]
theorem tup_one {m : Int} (h : 0 < m) : PyData.tuple [.int 1, .int m] = numD (1 / (m : Rat)) := by
  have h0 : (0 : Rat) < (m : Rat) := by
    rw [show (0 : Rat) = ((0 : Int) : Rat) from rfl]
    exact Rat.intCast_lt_intCast.mpr h
  rw [← num_flip h0]
  rfl
theorem pick3d {a b c : PyData} {d : Int} (h0 : 0 ≤ d) (h1 : d < 3) : ∃ z : PyData, (z = a ∨ z = b ∨ z = c) ∧ atI [a, b, c] d = some z := by
  rcases (show d = 0 ∨ d = 1 ∨ d = 2 by omega) with e | e | e <;> subst e
  · exact ⟨a, .inl rfl, atI_0⟩
  · exact ⟨b, .inr (.inl rfl), atI_1⟩
  · exact ⟨c, .inr (.inr rfl), atI_2⟩
theorem pick4d {a b c f : PyData} {d : Int} (h0 : 0 ≤ d) (h1 : d < 4) : ∃ z : PyData, (z = a ∨ z = b ∨ z = c ∨ z = f) ∧ atI [a, b, c, f] d = some z := by
  rcases (show d = 0 ∨ d = 1 ∨ d = 2 ∨ d = 3 by omega) with e | e | e | e <;> subst e
  · exact ⟨a, .inl rfl, atI_0⟩
  · exact ⟨b, .inr (.inl rfl), atI_1⟩
  · exact ⟨c, .inr (.inr (.inl rfl)), atI_2⟩
  · exact ⟨f, .inr (.inr (.inr rfl)), atI_3⟩
end DL

namespace DL
open PySem PySem.Spec L2 DM
section
variable {X : Cx} {Z : Ent} {pos : Pos}
/-! ### is True, is not False -/
def rIsBD : D2 := fun d e Q => match d, e with
  | .bool a, .bool b => Q (.bool (decide (a = b)))
  | _, _ => False
def rNotBD : D2 := fun d e Q => match d, e with
  | .bool a, .bool b => Q (.bool (!decide (a = b)))
  | _, _ => False
theorem isB_bb {a b : Bool} {Q : PyData → Prop} : rIsBD (.bool a) (.bool b) Q = Q (.bool (decide (a = b))) := rfl
theorem notB_bb {a b : Bool} {Q : PyData → Prop} : rNotBD (.bool a) (.bool b) Q = Q (.bool (!decide (a = b))) := rfl
instance : D2M rIsBD := ⟨fun d e Q Q' h q => by
  unfold rIsBD at q ⊢
  split at q
  · exact h _ q
  · exact q⟩
instance : D2M rNotBD := ⟨fun d e Q Q' h q => by
  unfold rNotBD at q ⊢
  split at q
  · exact h _ q
  · exact q⟩
theorem od_isB : OpD X Z (compareOp .Is) rIsBD := by
  refine ⟨⟨_, op_isBl, fun d e x y Hs H σ δ Q R dx dy q => ?_⟩, fun d e Q Q' => D2M.m (r := rIsBD) d e Q Q'⟩
  unfold rIsBD at q
  split at q
  · cases dx
    cases dy
    exact ⟨_, _, rfl, rfl, q _ Hs H (Same.refl _) R (.bl _)⟩
  · exact q.elim
theorem od_isnotB : OpD X Z (compareOp .IsNot) rNotBD := by
  refine ⟨⟨_, op_notBl, fun d e x y Hs H σ δ Q R dx dy q => ?_⟩, fun d e Q Q' => D2M.m (r := rNotBD) d e Q Q'⟩
  unfold rNotBD at q
  split at q
  · cases dx
    cases dy
    exact ⟨_, _, rfl, rfl, q _ Hs H (Same.refl _) R (.bl _)⟩
  · exact q.elim
/-! ### t + u of any tuples -/
def rAddB : D2 := fun d e Q => match d, e with
  | .tuple xs, .tuple ys => xs.length + ys.length ≤ sizeLine ∧ Q (.tuple (xs ++ ys))
  | _, _ => False
theorem adB_t {a b : List PyData} {Q : PyData → Prop} : rAddB (.tuple a) (.tuple b) Q = (a.length + b.length ≤ sizeLine ∧ Q (.tuple (a ++ b))) := rfl
instance : D2M rAddB := ⟨fun d e Q Q' h q => by
  unfold rAddB at q ⊢
  split at q
  · exact ⟨q.1, h _ q.2⟩
  · exact q⟩
theorem od_addB : OpD X Z (binaryOp .Add) rAddB := by
  refine ⟨⟨_, op_catA, fun d e x y Hs H σ δ Q R dx dy q => ?_⟩, fun d e Q Q' => D2M.m (r := rAddB) d e Q Q'⟩
  unfold rAddB at q
  split at q
  · cases dx with
    | tup h1 a1 =>
      cases dy with
      | tup h2 a2 =>
        refine ⟨_, _, _, _, rfl, rfl, sqt_mono R.sub h1, sqt_mono R.sub h2, by rw [a1.len, a2.len]; exact q.1, fun e => ?_, fun _ e => ?_, fun _ _ p np => ?_⟩
        · subst e
          cases a1
          exact q.2 _ Hs H (Same.refl _) R (.tup h2 a2)
        · subst e
          cases a2
          exact q.2 _ Hs H (Same.refl _) R (.tup h1 (by rw [List.append_nil]; exact a1))
        · have s2 : ∀ ys, Same Hs (upd Hs p (.tup ys)) := fun _ => same_new (R.hsn np)
          exact q.2 _ _ _ (s2 _) (R.alloc np) (.tup (SqT.of upd_same) ((a1.up (s2 _)).app (a2.up (s2 _))))
  · exact q.elim
/-! ### a new list times a written number -/
theorem dpa_flat {K : Fg} {H : Hp} {ws : List V} {xs : List PyData} (h : DpAll K H ws xs) : ∀ n : Nat, DpAll K H (List.replicate n ws).flatten (List.replicate n xs).flatten
  | 0 => .nil
  | n + 1 => by
    rw [List.replicate_succ, List.replicate_succ, List.flatten_cons, List.flatten_cons]
    exact h.app (dpa_flat h n)
def dRep (k : Int) (t : DL') : DE := fun δ Q => t δ fun xs δ' => (-(2 ^ 63) ≤ k ∧ k < 2 ^ 63 ∧ xs.length * k.toNat ≤ sizeLine) ∧ Q (.list (List.replicate k.toNat xs).flatten) δ'
instance {k : Int} {l : DL'} [LMono l] : EMono (dRep k l) := ⟨fun δ Q Q' hq q => LMono.m (t := l) _ _ _ (fun _ _ z => ⟨z.1, hq _ _ z.2⟩) q⟩
theorem de_rep {a : Expr} {t : DL'} {k : Int} {j} {p1 : Pos} (ha : Do X Z a t) : De X Z (.BinOp a .Mult (.Constant (.int k) j p1) pos) (dRep k t) := by
  refine ⟨pe_imp (pe_op op_rep ha.run pe_int) fun σ H Q ⟨Hs, δ, R, q⟩ => ⟨Hs, δ, R, ha.mono _ _ _ (fun xs δ1 q v Hs1 H1 s1 R1 f => ?_) q⟩, fun δ Q Q' hq q => ha.mono _ _ _ (fun _ _ z => ⟨z.1, hq _ _ z.2⟩) q⟩
  obtain ⟨a, ws, rfl, h1, h2, h3, h4, h5⟩ := FrO.lst f
  refine ⟨a, k, ws, rfl, rfl, h1, q.1.1, q.1.2.1, by rw [h3.len]; exact q.1.2.2, fun p np => ?_⟩
  have s2 : ∀ ys, Same Hs1 (upd Hs1 p (.lst ys)) := fun _ => same_new (R1.hsn np)
  exact q.2 _ _ _ (s1.trans (s2 _)) (R1.alloc np) (.lst (SqL.of upd_same) ((dpa_flat h3 _).up (s2 _)))
end
/-! ### things that are told as data: shaped, their ints small -/
inductive Gd : Nat → PyData → Prop
  | non {n : Nat} : Gd n .none
  | bl {n : Nat} (b : Bool) : Gd n (.bool b)
  | int {n : Nat} {i : Int} (h : i.natAbs < 2 ^ 900) : Gd n (.int i)
  | str {n : Nat} (s : String) : Gd n (.str (Str.ofString s))
  | lst {n : Nat} {xs : List PyData} (h : ∀ x ∈ xs, Gd n x) : Gd (n + 1) (.list xs)
  | tup {n : Nat} {xs : List PyData} (h : ∀ x ∈ xs, Gd n x) : Gd (n + 1) (.tuple xs)
theorem Gd.mono {m n : Nat} {d : PyData} (h : Gd m d) : m ≤ n → Gd n d := by
  induction h generalizing n with
  | non => intro _; exact .non
  | bl b => intro _; exact .bl b
  | int h => intro _; exact .int h
  | str s => intro _; exact .str s
  | lst h ih =>
    intro e
    cases n with
    | zero => omega
    | succ n => exact .lst fun x m => ih x m (by omega)
  | tup h ih =>
    intro e
    cases n with
    | zero => omega
    | succ n => exact .tup fun x m => ih x m (by omega)
theorem canAll {xs : List PyData} (h : ∀ x ∈ xs, PyData.canLay0 x = true) : PyData.canLayAll0 xs = true := by
  induction xs with
  | nil => rfl
  | cons x xs ih =>
    show (PyData.canLay0 x && PyData.canLayAll0 xs) = true
    rw [h x List.mem_cons_self, ih fun y m => h y (List.mem_cons_of_mem _ m)]
    rfl
theorem depAll {xs : List PyData} {n : Nat} (h : ∀ x ∈ xs, PyData.depth x ≤ n) : PyData.depthAll xs ≤ n := by
  induction xs with
  | nil => exact Nat.zero_le _
  | cons x xs ih =>
    show max (PyData.depth x) (PyData.depthAll xs) ≤ n
    have h1 := h x List.mem_cons_self
    have h2 := ih fun y m => h y (List.mem_cons_of_mem _ m)
    omega
theorem Gd.can {n : Nat} {d : PyData} (h : Gd n d) : PyData.canLay0 d = true ∧ PyData.depth d ≤ n := by
  induction h with
  | non => exact ⟨rfl, Nat.zero_le _⟩
  | bl b => exact ⟨rfl, Nat.zero_le _⟩
  | int h => exact ⟨rfl, Nat.zero_le _⟩
  | str s => exact ⟨by show PyData.strOk _ = true; exact strOk_of s, Nat.zero_le _⟩
  | lst h ih => exact ⟨canAll fun x m => (ih x m).1, by show PyData.depthAll _ + 1 ≤ _; have := depAll fun x m => (ih x m).2; omega⟩
  | tup h ih => exact ⟨canAll fun x m => (ih x m).1, by show PyData.depthAll _ + 1 ≤ _; have := depAll fun x m => (ih x m).2; omega⟩
theorem Gd.sh {n : Nat} {d : PyData} (h : Gd n d) (hn : n ≤ 64) : SeqAt.shaped d = true := by
  obtain ⟨h1, h2⟩ := h.can
  show (_ && decide _) = true
  rw [h1, decide_eq_true (by omega)]
  rfl
theorem Gd.tin {n : Nat} {xs : List PyData} (h : Gd (n + 1) (.tuple xs)) : ∀ x ∈ xs, Gd n x := by
  cases h with
  | tup h => exact h
theorem Gd.tinP {n : Nat} {xs : List PyData} (h : Gd n (.tuple xs)) : ∀ x ∈ xs, Gd n x := by
  cases h with
  | tup h => exact fun x m => (h x m).mono (by omega)
theorem Gd.num {n : Nat} {u : Rat} (h : Bd 900 u) : Gd (n + 1) (numD u) := .tup fun x m => by
  rcases List.mem_cons.mp m with rfl | m
  · exact .int h.1
  · rcases List.mem_cons.mp m with rfl | m
    · exact .int (by rw [Int.natAbs_natCast]; exact h.2)
    · cases m
theorem Gd.pl {n : Nat} {a b : Rat} (h : Bd 900 a) (h' : Bd 900 b) : Gd (n + 2) (.tuple [numD a, numD b]) := .tup fun x m => by
  rcases List.mem_cons.mp m with rfl | m
  · exact .num h
  · rcases List.mem_cons.mp m with rfl | m
    · exact .num h'
    · cases m
/-! ### numbers, places, steps of any thing -/
def isIntD : PyData → Bool
  | .int _ => true
  | _ => false
def isNumD : PyData → Bool
  | .tuple [.int a, .int b] => decide (0 < b) && decide (Int.gcd a b = 1)
  | _ => false
def isPlD : PyData → Bool
  | .tuple [x, y] => isNumD x && isNumD y
  | _ => false
theorem num_of {d : PyData} {n : Nat} (h : isNumD d = true) (g : Gd n d) : ∃ u : Rat, d = numD u ∧ Bd 900 u := by
  unfold isNumD at h
  split at h
  · rename_i a b
    rw [Bool.and_eq_true, decide_eq_true_eq, decide_eq_true_eq] at h
    have g1 := g.tinP
    have ga := g1 _ List.mem_cons_self
    have gb := g1 (.int b) (List.mem_cons_of_mem _ List.mem_cons_self)
    cases ga with
    | int ha =>
      cases gb with
      | int hb =>
        refine ⟨⟨a, b.toNat, by omega, ?_⟩, ?_, ?_, ?_⟩
        · show Nat.gcd a.natAbs b.toNat = 1
          have : b.toNat = b.natAbs := by omega
          rw [this]
          exact h.2
        · show _ = PyData.tuple [.int a, .int (b.toNat : Int)]
          rw [Int.toNat_of_nonneg (by omega)]
        · exact ha
        · show b.toNat < _
          omega
  · cases h
theorem isNum_num (u : Rat) : isNumD (numD u) = true := by
  show (decide (0 < (u.den : Int)) && decide (Int.gcd u.num u.den = 1)) = true
  rw [decide_eq_true (by have := u.den_pos; omega), decide_eq_true (show Int.gcd u.num u.den = 1 from u.reduced)]
  rfl
theorem pl_of {d : PyData} {n : Nat} (h : isPlD d = true) (g : Gd n d) : ∃ a b : Rat, d = .tuple [numD a, numD b] ∧ Bd 900 a ∧ Bd 900 b := by
  unfold isPlD at h
  split at h
  · rename_i x y
    rw [Bool.and_eq_true] at h
    have g1 := g.tinP
    obtain ⟨u, rfl, hu⟩ := num_of h.1 (g1 _ List.mem_cons_self)
    obtain ⟨v, rfl, hv⟩ := num_of h.2 (g1 y (List.mem_cons_of_mem _ List.mem_cons_self))
    exact ⟨u, v, rfl, hu, hv⟩
  · cases h
theorem isPl_pl (a b : Rat) : isPlD (.tuple [numD a, numD b]) = true := by
  show (isNumD _ && isNumD _) = true
  rw [isNum_num, isNum_num]
  rfl
def asN : PyData → Rat
  | .tuple [.int a, .int b] => Rat.divInt a b
  | _ => 0
theorem asN_num (u : Rat) : asN (numD u) = u := Rat.num_divInt_den u
def asP : PyData → Rat × Rat
  | .tuple [x, y] => (asN x, asN y)
  | _ => (0, 0)
theorem asP_pl (a b : Rat) : asP (.tuple [numD a, numD b]) = (a, b) := by
  show (asN _, asN _) = _
  rw [asN_num, asN_num]
/-- a root that is a number above 0 -/
noncomputable def farB (u : Rat) : Bool := match rt u with
  | some r => !decide (r = 0)
  | none => false
def wayB : PyData → Bool
  | .int i => decide (i = 1) || decide (i = -1)
  | _ => false
noncomputable def arcB (b e c w : PyData) : Bool := ((isPlD b && (isPlD e && isPlD c)) && wayB w) &&
  (farB (dt (sb2 (asP c) (asP b)) (sb2 (asP c) (asP b))) && decide (rt (dt (sb2 (asP c) (asP b)) (sb2 (asP c) (asP b))) = rt (dt (sb2 (asP c) (asP e)) (sb2 (asP c) (asP e)))))
noncomputable def arcR : List PyData → Bool
  | [b, e, c, w] => arcB b e c w
  | _ => false
noncomputable def lineR (hop : Bool) : List PyData → Bool
  | [x, y] => (isPlD x && isPlD y) && (hop || farB (dt (sb2 (asP x) (asP y)) (sb2 (asP x) (asP y))))
  | _ => false
noncomputable def stepB : PyData → Bool
  | .tuple (.str s :: r) => if s = ("arc" : Str) then arcR r else if s = ("hop" : Str) ∨ s = ("line" : Str) then lineR (s == ("hop" : Str)) r else false
  | _ => false
theorem step_str {d : PyData} (h : stepB d = true) : ∃ s r, d = .tuple (.str s :: r) := by
  unfold stepB at h
  split at h
  · exact ⟨_, _, rfl⟩
  · cases h
theorem opt_eqv2 {o u : Option Rat} : PyData.eqv (optD o) (optD u) = decide (o = u) := by
  cases u with
  | none =>
    cases o with
    | none => rfl
    | some r => rfl
  | some r => exact opt_eqv
def hopB : PyData → Bool
  | .tuple (.str s :: _) => s == ("hop" : Str)
  | _ => false
def f_isnum : FP := fn1 (fun d => d) (fun d => True) (fun d => .bool (isNumD d))
theorem ap_isnum {d : PyData} {Q : Res → Prop} : f_isnum [d] Q = (True ∧ Q (.d (.bool (isNumD d)))) := fn1_ap (fun _ _ h => h)
instance : FMono f_isnum := fm1
def f_whole1 : FP := fn1 (fun d => d) (fun d => True) (fun d => .bool (isIntD d))
theorem ap_whole1 {d : PyData} {Q : Res → Prop} : f_whole1 [d] Q = (True ∧ Q (.d (.bool (isIntD d)))) := fn1_ap (fun _ _ h => h)
instance : FMono f_whole1 := fm1
def f_isplD : FP := fn1 (fun d => d) (fun d => True) (fun d => .bool (isPlD d))
theorem ap_isplD {d : PyData} {Q : Res → Prop} : f_isplD [d] Q = (True ∧ Q (.d (.bool (isPlD d)))) := fn1_ap (fun _ _ h => h)
instance : FMono f_isplD := fm1
noncomputable def f_far : FP := fn2 plD plD (fun p q => Bd2 900 p ∧ Bd2 900 q) (fun p q => .bool (farB (dt (sb2 p q) (sb2 p q))))
instance : FMono f_far := fm2
theorem ap_far {a b c d : Rat} {Q : Res → Prop} : f_far [.tuple [numD a, numD b], .tuple [numD c, numD d]] Q = (((Bd 900 a ∧ Bd 900 b) ∧ Bd 900 c ∧ Bd 900 d) ∧ Q (.d (.bool (farB (dt (sb2 (a, b) (c, d)) (sb2 (a, b) (c, d))))))) := fn2_ap (x := (a, b)) (y := (c, d)) pl_inj pl_inj
noncomputable def f_isarc : FP := fun ds Q => ∃ s b e c w, ds = [.tuple [.str s, b, e, c, w]] ∧ Gd 30 (.tuple [.str s, b, e, c, w]) ∧ Q (.d (.bool (arcB b e c w)))
theorem fm_isarc : FMono f_isarc := ⟨fun ds Q Q' hq ⟨s, b, e, c, w, h1, h2, h3⟩ => ⟨s, b, e, c, w, h1, h2, hq _ h3⟩⟩
instance : FMono f_isarc := fm_isarc
theorem ln_isarc : ∀ ds Q, f_isarc ds Q → ds.length = 1 := fun ds Q ⟨s, b, e, c, w, h1, _⟩ => by rw [h1]; rfl
noncomputable def f_isstep : FP := fn1 (fun d => d) (Gd 30) (fun d => .bool (stepB d))
theorem ap_isstep {d : PyData} {Q : Res → Prop} : f_isstep [d] Q = (Gd 30 d ∧ Q (.d (.bool (stepB d)))) := fn1_ap (fun _ _ h => h)
instance : FMono f_isstep := fm1
noncomputable def f_iscut : FP := fn1 (fun d => d) (Gd 30) (fun d => .bool (stepB d && !hopB d))
theorem ap_iscut {d : PyData} {Q : Res → Prop} : f_iscut [d] Q = (Gd 30 d ∧ Q (.d (.bool (stepB d && !hopB d)))) := fn1_ap (fun _ _ h => h)
instance : FMono f_iscut := fm1
end DL

namespace DM
/-! turned, flipped and moved: e is 1 or -1, c c + s s is 1 -/
def lin (c s e : Rat) (p : Rat × Rat) : Rat × Rat := (p.1 * c - e * p.2 * s, p.1 * s + e * p.2 * c)
def iso (c s e : Rat) (m p : Rat × Rat) : Rat × Rat := ad2 (lin c s e p) m
section
variable {c s e : Rat} (h : c * c + s * s = 1) (he : e * e = 1)
theorem iso_sub (m p q : Rat × Rat) : sb2 (iso c s e m p) (iso c s e m q) = lin c s e (sb2 p q) :=
  Prod.ext (by simp only [sb2, iso, ad2, lin]; grind) (by simp only [sb2, iso, ad2, lin]; grind)
include h he in
theorem lin_dt (p q : Rat × Rat) : dt (lin c s e p) (lin c s e q) = dt p q := by
  have : dt (lin c s e p) (lin c s e q) = (c * c + s * s) * (p.1 * q.1) + (e * e) * (c * c + s * s) * (p.2 * q.2) := by simp only [dt, lin]; grind
  rw [this, h, he]
  simp only [dt]
  grind
include h in
theorem lin_cr (p q : Rat × Rat) : cr (lin c s e p) (lin c s e q) = e * cr p q := by
  have : cr (lin c s e p) (lin c s e q) = e * (c * c + s * s) * (p.1 * q.2 - p.2 * q.1) := by simp only [cr, lin]; grind
  rw [this, h]
  simp only [cr]
  grind
include h he in
theorem iso_inj {m p q : Rat × Rat} : (iso c s e m p = iso c s e m q) ↔ p = q := by
  constructor
  · intro z
    have e1 : sb2 (iso c s e m p) (iso c s e m q) = (0, 0) := by
      rw [z]
      exact Prod.ext (by simp only [sb2]; grind) (by simp only [sb2]; grind)
    rw [iso_sub] at e1
    have e2 := lin_dt h he (sb2 p q) (sb2 p q)
    rw [e1] at e2
    have e3 := dt_zero (p := sb2 p q) (by rw [← e2]; simp only [dt]; grind)
    injection e3 with e4 e5
    exact Prod.ext (by grind) (by grind)
  · intro z
    rw [z]
include h he in
theorem onLine_iso (m b f p : Rat × Rat) : onLine (iso c s e m b) (iso c s e m f) (iso c s e m p) = onLine b f p := by
  unfold onLine
  rw [iso_sub, iso_sub, lin_dt h he, lin_dt h he, lin_cr h]
  congr 1
  rw [decide_eq_decide]
  constructor
  · intro z
    have : cr (sb2 f b) (sb2 p b) = e * (e * cr (sb2 f b) (sb2 p b)) := by
      have : e * (e * cr (sb2 f b) (sb2 p b)) = (e * e) * cr (sb2 f b) (sb2 p b) := by grind
      rw [this, he]
      grind
    rw [this, z]
    grind
  · intro z
    rw [z]
    grind
include h he in
theorem onArc_iso (m b f o p : Rat × Rat) {w w' : Int} (hw : (w' : Rat) = e * (w : Rat)) : onArc (iso c s e m b) (iso c s e m f) (iso c s e m o) w' (iso c s e m p) = onArc b f o w p := by
  unfold onArc
  simp only [iso_sub, lin_dt h he, lin_cr h]
  have k : ∀ z : Rat, e * z * (w' : Rat) = z * w := fun z => by
    rw [hw]
    have : e * z * (e * (w : Rat)) = (e * e) * (z * w) := by grind
    rw [this, he]
    grind
  rw [k, k, k]
  congr 1
  congr 1
  exact decide_eq_decide.mpr (iso_inj h he)
end
theorem share_rev {R t : Rat} (hR : R ≠ 0) : (decide (0 ≤ (R - t) / R) && decide ((R - t) / R ≤ 1)) = (decide (0 ≤ t / R) && decide (t / R ≤ 1)) := by
  have e4 : (R - t) / R = 1 - t / R := by grind
  rw [e4]
  generalize t / R = u
  rw [Bool.and_comm]
  congr 1
  · exact decide_eq_decide.mpr ⟨fun _ => by grind, fun _ => by grind⟩
  · exact decide_eq_decide.mpr ⟨fun _ => by grind, fun _ => by grind⟩
theorem onLine_rev {b f p : Rat × Rat} (hn : dt (sb2 f b) (sb2 f b) ≠ 0) : onLine f b p = onLine b f p := by
  obtain ⟨b1, b2⟩ := b
  obtain ⟨f1, f2⟩ := f
  obtain ⟨p1, p2⟩ := p
  unfold onLine
  have e1 : cr (sb2 (b1, b2) (f1, f2)) (sb2 (p1, p2) (f1, f2)) = 0 ↔ cr (sb2 (f1, f2) (b1, b2)) (sb2 (p1, p2) (b1, b2)) = 0 := by
    simp only [cr, sb2]
    constructor <;> intro z <;> grind
  have e2 : dt (sb2 (b1, b2) (f1, f2)) (sb2 (b1, b2) (f1, f2)) = dt (sb2 (f1, f2) (b1, b2)) (sb2 (f1, f2) (b1, b2)) := by
    simp only [dt, sb2]
    grind
  have e3 : dt (sb2 (p1, p2) (f1, f2)) (sb2 (b1, b2) (f1, f2)) = dt (sb2 (f1, f2) (b1, b2)) (sb2 (f1, f2) (b1, b2)) - dt (sb2 (p1, p2) (b1, b2)) (sb2 (f1, f2) (b1, b2)) := by
    simp only [dt, sb2]
    grind
  rw [decide_eq_decide.mpr e1, e2, e3]
  rw [share_rev hn]
theorem onArc_rev {b f o p : Rat × Rat} {w : Int} (hw : w = 1 ∨ w = -1) (hR : 0 < dt (sb2 o b) (sb2 o b)) (hf : dt (sb2 o f) (sb2 o f) = dt (sb2 o b) (sb2 o b)) : onArc f b o (0 - w) p = onArc b f o w p := by
  obtain ⟨b1, b2⟩ := b
  obtain ⟨f1, f2⟩ := f
  obtain ⟨o1, o2⟩ := o
  obtain ⟨p1, p2⟩ := p
  have ww := w_sq hw
  unfold onArc
  rw [hf]
  by_cases z : dt (sb2 (o1, o2) (p1, p2)) (sb2 (o1, o2) (p1, p2)) = dt (sb2 (o1, o2) (b1, b2)) (sb2 (o1, o2) (b1, b2))
  · rw [decide_eq_true z, Bool.true_and, Bool.true_and]
    by_cases y : ((b1, b2) : Rat × Rat) = (f1, f2)
    · rw [decide_eq_true y, decide_eq_true y.symm, Bool.true_or, Bool.true_or]
    · rw [decide_eq_false y, decide_eq_false fun q => y q.symm, Bool.false_or, Bool.false_or]
      have hm : ((0 - w : Int) : Rat) = -(w : Rat) := by
        rw [Int.zero_sub]
        rfl
      rw [hm]
      generalize (w : Rat) = v at *
      simp only [sb2, dt, cr] at *
      have k1 : (o1 - b1) * (o1 - b1) + (o2 - b2) * (o2 - b2) = (b1 - o1) * (b1 - o1) + (b2 - o2) * (b2 - o2) := by grind
      have k2 : (o1 - f1) * (o1 - f1) + (o2 - f2) * (o2 - f2) = (f1 - o1) * (f1 - o1) + (f2 - o2) * (f2 - o2) := by grind
      have k3 : (o1 - p1) * (o1 - p1) + (o2 - p2) * (o2 - p2) = (p1 - o1) * (p1 - o1) + (p2 - o2) * (p2 - o2) := by grind
      rw [k1, k2] at hf
      rw [k1, k3] at z
      rw [k1] at hR
      have y2 : ¬ (b1 - o1 = f1 - o1 ∧ b2 - o2 = f2 - o2) := fun q => y (Prod.ext (by simp only; grind) (by simp only; grind))
      clear y k1 k2 k3 hm
      generalize b1 - o1 = B1 at *
      generalize b2 - o2 = B2 at *
      generalize f1 - o1 = F1 at *
      generalize f2 - o2 = F2 at *
      generalize p1 - o1 = P1 at *
      generalize p2 - o2 = P2 at *
      obtain ⟨R, hRd⟩ : ∃ R, R = B1 * B1 + B2 * B2 := ⟨_, rfl⟩
      rw [← hRd] at hR hf z
      have hR0 : R ≠ 0 := by grind
      obtain ⟨x, hx⟩ : ∃ x, x = (B1 * P1 + B2 * P2) / R := ⟨_, rfl⟩
      obtain ⟨y, hy⟩ : ∃ y, y = (B1 * P2 - B2 * P1) * v / R := ⟨_, rfl⟩
      obtain ⟨u, hu⟩ : ∃ u, u = (B1 * F1 + B2 * F2) / R := ⟨_, rfl⟩
      obtain ⟨t, ht⟩ : ∃ t, t = (B1 * F2 - B2 * F1) * v / R := ⟨_, rfl⟩
      have x1 : B1 * P1 + B2 * P2 = R * x := by rw [hx]; grind
      have y1 : (B1 * P2 - B2 * P1) * v = R * y := by rw [hy]; grind
      have u1 : B1 * F1 + B2 * F2 = R * u := by rw [hu]; grind
      have t1 : (B1 * F2 - B2 * F1) * v = R * t := by rw [ht]; grind
      clear hx hy hu ht
      have RR : R * R ≠ 0 := fun e => by
        rcases Rat.mul_eq_zero.mp e with e | e <;> exact hR0 e
      have n1 : x * x + y * y = 1 := by
        have : (R * R) * (x * x + y * y) = (R * R) * 1 := by
          have e1 : (R * R) * (x * x + y * y) = (R * x) * (R * x) + (R * y) * (R * y) := by grind
          rw [e1, ← x1, ← y1]
          have e2 : (B1 * P1 + B2 * P2) * (B1 * P1 + B2 * P2) + (B1 * P2 - B2 * P1) * v * ((B1 * P2 - B2 * P1) * v) = (B1 * P1 + B2 * P2) * (B1 * P1 + B2 * P2) + (v * v) * ((B1 * P2 - B2 * P1) * (B1 * P2 - B2 * P1)) := by grind
          rw [e2, ww]
          have e3 : (B1 * P1 + B2 * P2) * (B1 * P1 + B2 * P2) + 1 * ((B1 * P2 - B2 * P1) * (B1 * P2 - B2 * P1)) = (B1 * B1 + B2 * B2) * (P1 * P1 + P2 * P2) := by grind
          rw [e3, ← hRd, z]
          grind
        have : (R * R) * (x * x + y * y - 1) = 0 := by grind
        rcases Rat.mul_eq_zero.mp this with e | e
        · exact absurd e RR
        · grind
      have n2 : u * u + t * t = 1 := by
        have : (R * R) * (u * u + t * t) = (R * R) * 1 := by
          have e1 : (R * R) * (u * u + t * t) = (R * u) * (R * u) + (R * t) * (R * t) := by grind
          rw [e1, ← u1, ← t1]
          have e2 : (B1 * F1 + B2 * F2) * (B1 * F1 + B2 * F2) + (B1 * F2 - B2 * F1) * v * ((B1 * F2 - B2 * F1) * v) = (B1 * F1 + B2 * F2) * (B1 * F1 + B2 * F2) + (v * v) * ((B1 * F2 - B2 * F1) * (B1 * F2 - B2 * F1)) := by grind
          rw [e2, ww]
          have e3 : (B1 * F1 + B2 * F2) * (B1 * F1 + B2 * F2) + 1 * ((B1 * F2 - B2 * F1) * (B1 * F2 - B2 * F1)) = (B1 * B1 + B2 * B2) * (F1 * F1 + F2 * F2) := by grind
          rw [e3, ← hRd, hf]
          grind
        have : (R * R) * (u * u + t * t - 1) = 0 := by grind
        rcases Rat.mul_eq_zero.mp this with e | e
        · exact absurd e RR
        · grind
      have n3 : ¬ (u = 1 ∧ t = 0) := by
        rintro ⟨rfl, rfl⟩
        apply y2
        have q1 : B1 * F1 + B2 * F2 = R := by rw [u1]; grind
        have q2 : (B1 * F2 - B2 * F1) * (v * v) = 0 := by
          have : (B1 * F2 - B2 * F1) * (v * v) = (B1 * F2 - B2 * F1) * v * v := by grind
          rw [this, t1]
          grind
        rw [ww] at q2
        have q3 : (B1 - F1) * (B1 - F1) + (B2 - F2) * (B2 - F2) = 0 := by
          have : (B1 - F1) * (B1 - F1) + (B2 - F2) * (B2 - F2) = (B1 * B1 + B2 * B2) + (F1 * F1 + F2 * F2) - 2 * (B1 * F1 + B2 * F2) := by grind
          rw [this, ← hRd, hf, q1]
          grind
        have q4 := dt_zero (p := (B1 - F1, B2 - F2)) q3
        injection q4 with q5 q6
        exact ⟨by grind, by grind⟩
      have m3 : (P1 * F2 - P2 * F1) * v = R * (x * t - y * u) := by
        have : R * ((P1 * F2 - P2 * F1) * v) = R * (R * (x * t - y * u)) := by
          have e1 : R * (R * (x * t - y * u)) = (R * x) * (R * t) - (R * y) * (R * u) := by grind
          rw [e1, ← x1, ← t1, ← y1, ← u1, hRd]
          grind
        have : R * ((P1 * F2 - P2 * F1) * v - R * (x * t - y * u)) = 0 := by grind
        rcases Rat.mul_eq_zero.mp this with e | e
        · exact absurd e hR0
        · grind
      have m4 : F1 * P1 + F2 * P2 = R * (x * u + y * t) := by
        have : R * (F1 * P1 + F2 * P2) = R * (R * (x * u + y * t)) := by
          have e1 : R * (R * (x * u + y * t)) = (R * x) * (R * u) + (R * y) * (R * t) := by grind
          rw [e1, ← x1, ← t1, ← y1, ← u1, hRd]
          have e2 : (B1 * P1 + B2 * P2) * (B1 * F1 + B2 * F2) + (B1 * P2 - B2 * P1) * v * ((B1 * F2 - B2 * F1) * v) = (B1 * P1 + B2 * P2) * (B1 * F1 + B2 * F2) + (v * v) * ((B1 * P2 - B2 * P1) * (B1 * F2 - B2 * F1)) := by grind
          rw [e2, ww]
          grind
        have : R * ((F1 * P1 + F2 * P2) - R * (x * u + y * t)) = 0 := by grind
        rcases Rat.mul_eq_zero.mp this with e | e
        · exact absurd e hR0
        · grind
      have c1 : (F1 * P2 - F2 * P1) * -v = R * (x * t - y * u) := by rw [← m3]; grind
      have c2 : (F1 * B2 - F2 * B1) * -v = R * t := by rw [← t1]; grind
      have c3 : (P1 * B2 - P2 * B1) * -v = R * y := by rw [← y1]; grind
      have c4 : F1 * B1 + F2 * B2 = R * u := by rw [← u1]; grind
      rw [c1, c2, c3, c4, m4, y1, x1, t1, u1, m3, soon_mul hR, soon_mul hR]
      exact (soon_rev n1 n2 n3).symm
  · rw [decide_eq_false z, Bool.false_and, Bool.false_and]
end DM
namespace DL
open PySem PySem.Spec L2 DM
/-! ### cuts -/
inductive Ct where
  | line (b f : Rat × Rat)
  | arc (b f o : Rat × Rat) (w : Int)
def cD : Ct → PyData
  | .line b f => lineD b.1 b.2 f.1 f.2
  | .arc b f o w => arcD b.1 b.2 f.1 f.2 o.1 o.2 w
/-- a cut whose places have sizes n, of the length or radius r -/
def CtOk (n : Nat) (r : Rat) : Ct → Prop
  | .line b f => (Bc n b ∧ Bc n f) ∧ 0 < r ∧ r * r = dt (sb2 b f) (sb2 b f)
  | .arc b f o w => (Bc n b ∧ Bc n f ∧ Bc n o) ∧ (w = 1 ∨ w = -1) ∧ 0 < r ∧ r * r = dt (sb2 o b) (sb2 o b) ∧ r * r = dt (sb2 o f) (sb2 o f)
def onC : Ct → Rat × Rat → Bool
  | .line b f, p => onLine b f p
  | .arc b f o w, p => onArc b f o w p
def hd0 (r : Rat) : Ct → Rat × Rat
  | .line b f => ((f.1 - b.1) * (1 / r), (f.2 - b.2) * (1 / r))
  | .arc b f o w => (-(b.2 - o.2) * ((w : Rat) / r), (b.1 - o.1) * ((w : Rat) / r))
def hd1 (r : Rat) : Ct → Rat × Rat
  | .line b f => ((f.1 - b.1) * (1 / r), (f.2 - b.2) * (1 / r))
  | .arc b f o w => (-(f.2 - o.2) * ((w : Rat) / r), (f.1 - o.1) * ((w : Rat) / r))
theorem line_ne {b f : Rat × Rat} {r : Rat} (h0 : 0 < r) (h : r * r = dt (sb2 b f) (sb2 b f)) : ¬ (b.1 = f.1 ∧ b.2 = f.2) := fun ⟨e1, e2⟩ => by
  have : dt (sb2 b f) (sb2 b f) = 0 := by
    simp only [dt, sb2, e1, e2]
    grind
  rw [this] at h
  have := rsq_pos (x := r) (by grind)
  grind
theorem ct_arcOk {n : Nat} {r : Rat} {b f o : Rat × Rat} {w : Int} (h : CtOk n r (.arc b f o w)) (hn : n ≤ 200) : ArcOk b.1 b.2 f.1 f.2 o.1 o.2 w r := by
  obtain ⟨⟨h1, h2, h3⟩, hw, h0, e1, e2⟩ := h
  exact ⟨⟨h1.bd.1.mono hn, h1.bd.2.mono hn, h2.bd.1.mono hn, h2.bd.2.mono hn, h3.bd.1.mono hn, h3.bd.2.mono hn⟩, hw, by grind, rt_of (by grind) e1⟩
theorem lies_ap {n m : Nat} {r : Rat} {c : Ct} {p : Rat × Rat} {Q : Res → Prop} (h : CtOk n r c) (hn : n ≤ 200) (hp : Bc m p) (hm : m ≤ 400) (hq : Q (.d (.bool (onC c p)))) : f_lies [cD c, .tuple [numD p.1, numD p.2]] Q := by
  have bp := hp.bd
  cases c with
  | line b f =>
    obtain ⟨⟨h1, h2⟩, h0, e1⟩ := h
    exact .inr ⟨b.1, b.2, f.1, f.2, p.1, p.2, rfl, ⟨h1.bd.1.mono hn, h1.bd.2.mono hn, h2.bd.1.mono hn, h2.bd.2.mono hn⟩, line_ne h0 e1, ⟨bp.1.mono hm, bp.2.mono hm⟩, hq⟩
  | arc b f o w => exact .inl ⟨b.1, b.2, f.1, f.2, o.1, o.2, w, r, p.1, p.2, rfl, ct_arcOk h hn, ⟨bp.1.mono hm, bp.2.mono hm⟩, hq⟩
theorem headings_ap {n : Nat} {r : Rat} {c : Ct} {Q : Res → Prop} (h : CtOk n r c) (hn : n ≤ 200) (hq : Q (.d (.tuple [.tuple [numD (hd0 r c).1, numD (hd0 r c).2], .tuple [numD (hd1 r c).1, numD (hd1 r c).2]]))) : f_headings [cD c] Q := by
  cases c with
  | line b f =>
    obtain ⟨⟨h1, h2⟩, h0, e1⟩ := h
    exact .inl ⟨b.1, b.2, f.1, f.2, r, rfl, ⟨h1.bd.1.mono hn, h1.bd.2.mono hn, h2.bd.1.mono hn, h2.bd.2.mono hn⟩, by grind, rt_of (by grind) e1, hq⟩
  | arc b f o w => exact .inr ⟨b.1, b.2, f.1, f.2, o.1, o.2, w, r, rfl, ct_arcOk h hn, hq⟩
theorem farB_of {u r : Rat} (h0 : 0 < r) (h : r * r = u) : farB u = true := by
  unfold farB
  rw [rt_of (by grind) h]
  simp only [Bool.not_eq_true', decide_eq_false_iff_not]
  grind
theorem Gd.lst5 {n : Nat} {a b c d e : PyData} (h1 : Gd n a) (h2 : Gd n b) (h3 : Gd n c) (h4 : Gd n d) (h5 : Gd n e) : Gd (n + 1) (.tuple [a, b, c, d, e]) := .tup fun x m => by
  simp only [List.mem_cons, List.not_mem_nil, or_false] at m
  rcases m with rfl | rfl | rfl | rfl | rfl <;> assumption
theorem Gd.lst3 {n : Nat} {a b c : PyData} (h1 : Gd n a) (h2 : Gd n b) (h3 : Gd n c) : Gd (n + 1) (.tuple [a, b, c]) := .tup fun x m => by
  simp only [List.mem_cons, List.not_mem_nil, or_false] at m
  rcases m with rfl | rfl | rfl <;> assumption
theorem ct_gd {n : Nat} {r : Rat} {c : Ct} (h : CtOk n r c) (hn : n ≤ 900) : Gd 30 (cD c) := by
  cases c with
  | line b f =>
    obtain ⟨⟨h1, h2⟩, h0, e1⟩ := h
    exact (Gd.lst3 (.str _) (.pl (h1.bd.1.mono hn) (h1.bd.2.mono hn)) (.pl (h2.bd.1.mono hn) (h2.bd.2.mono hn))).mono (show 3 ≤ 30 by decide)
  | arc b f o w =>
    obtain ⟨⟨h1, h2, h3⟩, hw, h0, e1, e2⟩ := h
    refine (Gd.lst5 (.str _) (.pl (h1.bd.1.mono hn) (h1.bd.2.mono hn)) (.pl (h2.bd.1.mono hn) (h2.bd.2.mono hn)) (.pl (h3.bd.1.mono hn) (h3.bd.2.mono hn)) (.int ?_)).mono (show 3 ≤ 30 by decide)
    exact Nat.lt_of_lt_of_le (show _ < 2 ^ 2 by omega) (Nat.pow_le_pow_right (by decide) (by decide))
theorem str_ne {a b : String} (h : a ≠ b) : ¬ (Str.ofString a = Str.ofString b) := fun e => h (str_inj e)
theorem ct_step {n : Nat} {r : Rat} {c : Ct} (h : CtOk n r c) : stepB (cD c) = true ∧ hopB (cD c) = false := by
  cases c with
  | line b f =>
    obtain ⟨⟨h1, h2⟩, h0, e1⟩ := h
    constructor
    · show (if (Str.ofString "line") = Str.ofString "arc" then arcR [.tuple [numD b.1, numD b.2], .tuple [numD f.1, numD f.2]] else if (Str.ofString "line") = Str.ofString "hop" ∨ (Str.ofString "line") = Str.ofString "line" then lineR (Str.ofString "line" == Str.ofString "hop") [.tuple [numD b.1, numD b.2], .tuple [numD f.1, numD f.2]] else false) = true
      rw [if_neg (str_ne (by decide)), if_pos (.inr rfl)]
      show ((isPlD _ && isPlD _) && (_ || farB (dt (sb2 (asP _) (asP _)) (sb2 (asP _) (asP _))))) = true
      rw [isPl_pl, isPl_pl, asP_pl, asP_pl, farB_of h0 e1]
      simp
    · show (Str.ofString "line" == Str.ofString "hop") = false
      rw [str_beq]
      decide
  | arc b f o w =>
    obtain ⟨⟨h1, h2, h3⟩, hw, h0, e1, e2⟩ := h
    constructor
    · show (if (Str.ofString "arc") = Str.ofString "arc" then arcB (.tuple [numD b.1, numD b.2]) (.tuple [numD f.1, numD f.2]) (.tuple [numD o.1, numD o.2]) (.int w) else if (Str.ofString "arc") = Str.ofString "hop" ∨ (Str.ofString "arc") = Str.ofString "line" then lineR (Str.ofString "arc" == Str.ofString "hop") [.tuple [numD b.1, numD b.2], .tuple [numD f.1, numD f.2], .tuple [numD o.1, numD o.2], .int w] else false) = true
      rw [if_pos rfl]
      unfold arcB
      rw [isPl_pl, isPl_pl, isPl_pl, asP_pl, asP_pl, asP_pl, farB_of h0 e1, ← e1, ← e2]
      have : wayB (.int w) = true := by
        show (decide (w = 1) || decide (w = -1)) = true
        simpa using hw
      rw [this]
      simp
    · show (Str.ofString "arc" == Str.ofString "hop") = false
      rw [str_beq]
      decide
/-! moved cuts -/
def isoC (c s e : Rat) (m : Rat × Rat) (k : Int) : Ct → Ct
  | .line b f => .line (iso c s e m b) (iso c s e m f)
  | .arc b f o w => .arc (iso c s e m b) (iso c s e m f) (iso c s e m o) (w * k)
def backC : Ct → Ct
  | .line b f => .line f b
  | .arc b f o w => .arc f b o (0 - w)
theorem on_iso {c s e : Rat} {m : Rat × Rat} {k : Int} (h : c * c + s * s = 1) (he : e * e = 1) (hk : (k : Rat) = e) (ct : Ct) (p : Rat × Rat) : onC (isoC c s e m k ct) (iso c s e m p) = onC ct p := by
  cases ct with
  | line b f => exact onLine_iso h he m b f p
  | arc b f o w => exact onArc_iso h he m b f o p (by rw [Rat.intCast_mul, hk]; grind)
theorem on_back {n : Nat} {r : Rat} {ct : Ct} (h : CtOk n r ct) (p : Rat × Rat) : onC (backC ct) p = onC ct p := by
  cases ct with
  | line b f =>
    obtain ⟨⟨h1, h2⟩, h0, e1⟩ := h
    refine onLine_rev fun z => ?_
    have e : dt (sb2 f b) (sb2 f b) = dt (sb2 b f) (sb2 b f) := by simp only [dt, sb2]; grind
    rw [e, ← e1] at z
    have := rsq_pos (x := r) (by grind)
    grind
  | arc b f o w =>
    obtain ⟨⟨h1, h2, h3⟩, hw, h0, e1, e2⟩ := h
    refine onArc_rev hw ?_ (by rw [← e1, ← e2])
    rw [← e1]
    exact rsq_pos (by grind)
theorem hd0_iso {c s e r : Rat} {m : Rat × Rat} {k : Int} (he : e * e = 1) (hk : (k : Rat) = e) (ct : Ct) : hd0 r (isoC c s e m k ct) = lin c s e (hd0 r ct) := by
  cases ct with
  | line b f => exact Prod.ext (by simp only [hd0, isoC, iso, ad2, lin]; grind) (by simp only [hd0, isoC, iso, ad2, lin]; grind)
  | arc b f o w =>
    have hk' : ((w * k : Int) : Rat) = (w : Rat) * e := by rw [Rat.intCast_mul, hk]
    simp only [hd0, isoC, iso, ad2, lin, hk']
    generalize (w : Rat) = v
    have q : ∀ x : Rat, x * (v * e / r) = x * (v / r) * e := fun x => by grind
    exact Prod.ext (by simp only [q]; grind) (by simp only [q]; grind)
theorem hd1_iso {c s e r : Rat} {m : Rat × Rat} {k : Int} (he : e * e = 1) (hk : (k : Rat) = e) (ct : Ct) : hd1 r (isoC c s e m k ct) = lin c s e (hd1 r ct) := by
  cases ct with
  | line b f => exact Prod.ext (by simp only [hd1, isoC, iso, ad2, lin]; grind) (by simp only [hd1, isoC, iso, ad2, lin]; grind)
  | arc b f o w =>
    have hk' : ((w * k : Int) : Rat) = (w : Rat) * e := by rw [Rat.intCast_mul, hk]
    simp only [hd1, isoC, iso, ad2, lin, hk']
    generalize (w : Rat) = v
    have q : ∀ x : Rat, x * (v * e / r) = x * (v / r) * e := fun x => by grind
    exact Prod.ext (by simp only [q]; grind) (by simp only [q]; grind)
theorem hd0_back {r : Rat} (ct : Ct) : hd0 r (backC ct) = (-(hd1 r ct).1, -(hd1 r ct).2) := by
  cases ct with
  | line b f => exact Prod.ext (by simp only [hd0, hd1, backC]; grind) (by simp only [hd0, hd1, backC]; grind)
  | arc b f o w =>
    have hk' : ((0 - w : Int) : Rat) = -(w : Rat) := by rw [Int.zero_sub]; rfl
    simp only [hd0, hd1, backC, hk']
    exact Prod.ext (by simp only; grind) (by simp only; grind)
theorem hd1_back {r : Rat} (ct : Ct) : hd1 r (backC ct) = (-(hd0 r ct).1, -(hd0 r ct).2) := by
  cases ct with
  | line b f => exact Prod.ext (by simp only [hd0, hd1, backC]; grind) (by simp only [hd0, hd1, backC]; grind)
  | arc b f o w =>
    have hk' : ((0 - w : Int) : Rat) = -(w : Rat) := by rw [Int.zero_sub]; rfl
    simp only [hd0, hd1, backC, hk']
    exact Prod.ext (by simp only; grind) (by simp only; grind)
theorem Bc.neg2' {n : Nat} {p : Rat × Rat} {e : Rat} (h : Bc n p) (he : e = 1 ∨ e = -1) : Bc n (p.1, e * p.2) := by
  rcases he with rfl | rfl
  · rw [Rat.one_mul]
    exact h
  · rw [show -1 * p.2 = -p.2 by grind]
    exact h.neg2
theorem Bc.iso {n j k : Nat} {c s e : Rat} {m p : Rat × Rat} (hp : Bc n p) (hc : Bc j (c, s)) (hm : Bc k m) (he : e = 1 ∨ e = -1) : Bc (n + j + 1 + k + 1) (iso c s e m p) := by
  have h1 := (hp.neg2' he).turn hc
  have h2 := h1.add hm
  have e1 : DM.iso c s e m p = (p.1 * c - e * p.2 * s + m.1, p.1 * s + e * p.2 * c + m.2) := rfl
  rw [e1]
  exact h2
theorem ct_iso {n j k : Nat} {r c s e : Rat} {m : Rat × Rat} {kk : Int} {ct : Ct} (h : CtOk n r ct) (h1 : c * c + s * s = 1) (he : e = 1 ∨ e = -1) (hk : (kk : Rat) = e) (hc : Bc j (c, s)) (hm : Bc k m) : CtOk (n + j + 1 + k + 1) r (isoC c s e m kk ct) := by
  have ee : e * e = 1 := by rcases he with rfl | rfl <;> grind
  cases ct with
  | line b f =>
    obtain ⟨⟨b1, b2⟩, h0, e1⟩ := h
    refine ⟨⟨b1.iso hc hm he, b2.iso hc hm he⟩, h0, ?_⟩
    rw [iso_sub, lin_dt h1 ee]
    exact e1
  | arc b f o w =>
    obtain ⟨⟨b1, b2, b3⟩, hw, h0, e1, e2⟩ := h
    refine ⟨⟨b1.iso hc hm he, b2.iso hc hm he, b3.iso hc hm he⟩, ?_, h0, ?_, ?_⟩
    · have hkk : kk = 1 ∨ kk = -1 := by
        rcases he with rfl | rfl
        · exact .inl (by exact_mod_cast hk)
        · right
          exact Rat.intCast_inj.mp (by rw [hk]; rfl)
      rcases hw with rfl | rfl <;> rcases hkk with rfl | rfl <;> decide
    · rw [iso_sub, lin_dt h1 ee]
      exact e1
    · rw [iso_sub, lin_dt h1 ee]
      exact e2
theorem ct_back {n : Nat} {r : Rat} {ct : Ct} (h : CtOk n r ct) : CtOk n r (backC ct) := by
  cases ct with
  | line b f =>
    obtain ⟨⟨b1, b2⟩, h0, e1⟩ := h
    refine ⟨⟨b2, b1⟩, h0, ?_⟩
    rw [e1]
    simp only [dt, sb2]
    grind
  | arc b f o w =>
    obtain ⟨⟨b1, b2, b3⟩, hw, h0, e1, e2⟩ := h
    exact ⟨⟨b2, b1, b3⟩, by omega, h0, e2, e1⟩
theorem CtOk.mono {m n : Nat} {r : Rat} {ct : Ct} (h : CtOk m r ct) (e : m ≤ n) : CtOk n r ct := by
  cases ct with
  | line b f =>
    obtain ⟨⟨b1, b2⟩, h0, e1⟩ := h
    exact ⟨⟨b1.mono e, b2.mono e⟩, h0, e1⟩
  | arc b f o w =>
    obtain ⟨⟨b1, b2, b3⟩, hw, h0, e1, e2⟩ := h
    exact ⟨⟨b1.mono e, b2.mono e, b3.mono e⟩, hw, h0, e1, e2⟩
theorem Bc.scale {m n : Nat} {p : Rat × Rat} {u : Rat} (hp : Bc n p) (hu : Bd m u) : Bc (n + m + 2) (p.1 * u, p.2 * u) := by
  have t := hp.turn (Bc.of hu bd_zero)
  simp only [Rat.mul_zero] at t
  rw [show p.1 * u - 0 = p.1 * u by grind, show 0 + p.2 * u = p.2 * u by grind] at t
  exact t.mono (by omega)
theorem Bc.sub {m n : Nat} {p q : Rat × Rat} (hp : Bc m p) (hq : Bc n q) : Bc (m + n + 1) (p.1 - q.1, p.2 - q.2) := by
  obtain ⟨a, b, d, h0, e1, e2, h1, h2, h3⟩ := hq
  have := hp.add (q := (-q.1, -q.2)) ⟨-a, -b, d, h0, by rw [dI_neg, ← e1], by rw [dI_neg, ← e2], by rw [Int.natAbs_neg]; exact h1, by rw [Int.natAbs_neg]; exact h2, h3⟩
  simp only [← Rat.sub_eq_add_neg] at this
  exact this
/-- a cut drawn -/
def f_cutb (c : Nat) : FB := fun xs ds Q => ∃ n, BagOk n xs ∧ n + c ≤ mostDraws ∧ ds = [] ∧ ∀ ct r xs', CtOk 90 r ct → BagOk (n + c) xs' → Q (.d (cD ct)) xs'
theorem bm_cutb {c : Nat} : BMono (f_cutb c) := ⟨fun xs ds Q Q' hq ⟨n, h1, h2, h3, h⟩ => ⟨n, h1, h2, h3, fun ct r xs' a b => hq _ _ (h ct r xs' a b)⟩⟩
instance {c : Nat} : BMono (f_cutb c) := bm_cutb
theorem bl_cutb {c : Nat} : ∀ xs ds Q, f_cutb c xs ds Q → ds.length + 1 = 1 := fun xs ds Q ⟨n, h1, h2, h3, h⟩ => by rw [h3]; rfl
theorem cutb_at {c : Nat} {xs : List PyData} {n : Nat} {Q : Res → List PyData → Prop} (hb : BagOk n xs) (hn : n + c ≤ mostDraws) (h : ∀ ct r xs', CtOk 90 r ct → BagOk (n + c) xs' → Q (.d (cD ct)) xs') : f_cutb c xs [] Q := ⟨n, hb, hn, rfl, h⟩
theorem hd_bd90 {r : Rat} {ct : Ct} (h : CtOk 90 r ct) : Bd2 910 (hd0 r ct) ∧ Bd2 910 (hd1 r ct) := by
  cases ct with
  | line b f =>
    obtain ⟨⟨b1, b2⟩, h0, e1⟩ := h
    have hr : Bd 725 r := by
      have e2 : rt (dt (sb2 b f) (sb2 b f)) = some r := rt_of (by grind) e1
      refine Bd.rt ?_ e2
      have q1 := b1.bd.1.sub b2.bd.1
      have q2 := b1.bd.2.sub b2.bd.2
      exact ((q1.mul q1).add (q2.mul q2)).mono (by decide)
    have h1 : Bd 726 (1 / r) := (bd_one.div hr (by grind)).mono (by decide)
    have k : Bd2 910 (hd0 r (.line b f)) := ⟨((b2.bd.1.sub b1.bd.1).mul h1).mono (by decide), ((b2.bd.2.sub b1.bd.2).mul h1).mono (by decide)⟩
    exact ⟨k, k⟩
  | arc b f o w =>
    obtain ⟨⟨b1, b2, b3⟩, hw, h0, e1, e2⟩ := h
    have hr : Bd 725 r := by
      have e2 : rt (dt (sb2 o b) (sb2 o b)) = some r := rt_of (by grind) e1
      refine Bd.rt ?_ e2
      have q1 := b3.bd.1.sub b1.bd.1
      have q2 := b3.bd.2.sub b1.bd.2
      exact ((q1.mul q1).add (q2.mul q2)).mono (by decide)
    have h1 : Bd 727 ((w : Rat) / r) := ((w_bd hw).div hr (by grind)).mono (by decide)
    exact ⟨⟨((b1.bd.2.sub b3.bd.2).neg.mul h1).mono (by decide), ((b1.bd.1.sub b3.bd.1).mul h1).mono (by decide)⟩, ⟨((b2.bd.2.sub b3.bd.2).neg.mul h1).mono (by decide), ((b2.bd.1.sub b3.bd.1).mul h1).mono (by decide)⟩⟩
end DL

namespace DL
open PySem PySem.Spec L2 DM PyProof.Rows PySem.W
/-! ### a, *b, c = a list or a tuple -/
section
variable {prog : Program} {w : World} {A : Around} {E : Value → Shared → Prop} {s : Shared}
theorem star_items {l : Addr} {its : List Value} {n i : Nat} {Q : List Value → Shared → Prop} (hl : s.heap.IsList l its.toArray ∨ IsTup s.heap l its.toArray) (hh : A.handled = none) (hi : i < n) (hn : n ≤ its.length + 1) (hz : its.length ≤ 16384)
    (h : ∀ (h' : Heap) (tk : Nat), (∀ b o, s.heap.get? b = some o → h'.get? b = some o) → Q (its.take i ++ [.ref h'.objs.size] ++ (its.drop i).drop (its.length + 1 - n)) { s with heap := h'.push { cls := .type "list", data := .seq ((its.drop i).take (its.length + 1 - n)).toArray }, toks := tk }) :
    wpAny (model prog w) A (unpackItems (.ref l) n (some i)) Q E s := by
  have fin : ∀ (h₁ : Heap) (tk : Nat), (∀ b o, b ≠ s.heap.objs.size → s.heap.get? b = some o → h₁.get? b = some o) →
      wpAny (model prog w) A (newList ((its.drop i).take ((its.drop i).length - (n - 1 - i))) >>= fun d => pure (its.take i ++ [d] ++ (its.drop i).drop ((its.drop i).length - (n - 1 - i)))) Q E { s with heap := h₁, toks := tk } := by
    intro h₁ tk hk
    have hmid : (its.drop i).length - (n - 1 - i) = its.length + 1 - n := by rw [List.length_drop]; omega
    rw [hmid]
    unfold newList
    refine wpAny_bind (wpAny_newObj_type ?_ (by show ((its.drop i).take (its.length + 1 - n)).toArray.size ≤ sizeLine; rw [List.size_toArray, List.length_take, List.length_drop, sizeLine_eq]; omega))
    exact wpAny_pure (h h₁ tk fun b o e => hk b o (Nat.ne_of_lt (Heap.lt_size e)) e)
  have hfl : (its.take i).length = i := by rw [List.length_take]; omega
  have hrl : ¬ (its.drop i).length < n - 1 - i := by rw [List.length_drop]; omega
  unfold unpackItems
  refine wpAny_bind ?_
  unfold notIterableAtAll
  rcases hl with hl | hl
  · have hlt : l ≠ s.heap.objs.size := by obtain ⟨o, ho, _⟩ := hl; exact Nat.ne_of_lt (Heap.lt_size ho)
    refine wpAny_bind (wpAny_specialOf hl.typeIs slot_list_iter.lookup ?_)
    refine wpAny_pure ?_
    simp only [Bool.false_eq_true, if_false]
    refine wpAny_bind (wpAny_holding (wpAny_pyIter_list hl ?_))
    refine wpAny_bind (wpAny_holding (kun_draw hlt i 0 _ _ ⟨_, Heap.get?_push_size _ rfl, rfl, rfl⟩ (hl.push _) (by simp; omega) fun h₁ hit₁ hs₁ => ?_))
    have hl₁ : h₁.IsList l its.toArray := (hl.push _).extBut hs₁.extBut hlt
    rw [Nat.zero_add] at hit₁
    have hit₁' := hit₁
    obtain ⟨oi, hoi, _⟩ := hit₁'
    have hl₁' := hl₁
    obtain ⟨ol, hol, _⟩ := hl₁'
    simp only [List.drop_zero]
    rw [if_neg (show ¬ ((its.take i).length < i) by rw [hfl]; omega)]
    refine wpAny_bind (wpAny_holding (kun_collect (s := { s with heap := h₁ }) (T := "list_iterator") (.inr (.inr (.inl rfl))) (Walks.list (A := A.in1) hh s.heap.objs.size l hlt its.toArray) (fun j u st => st.1.typeIs) (k := i) (by simp; omega) ⟨hit₁, hl₁⟩ (Heap.lt_size hoi) (Heap.lt_size hol) (fun h₂ tk hk => ?_) (by rw [sizeLine_eq]; simp; omega)))
    show wpAny _ _ (if (its.drop i).length < n - 1 - i then _ else _) _ _ _
    rw [if_neg hrl]
    exact fin h₂ tk fun b o hb e => hk b o hb (hs₁.extBut b o hb (Heap.get?_push_of_some _ e))
  · have hlt : l ≠ s.heap.objs.size := by obtain ⟨o, ho, _⟩ := hl; exact Nat.ne_of_lt (Heap.lt_size ho)
    refine wpAny_bind (wpAny_specialOf hl.typeIs slot_tuple_iter.lookup ?_)
    refine wpAny_pure ?_
    simp only [Bool.false_eq_true, if_false]
    refine wpAny_bind (wpAny_holding (iter_tuple hl ?_))
    refine wpAny_bind (wpAny_holding (draw_tuple hlt i 0 _ _ ⟨_, Heap.get?_push_size _ rfl, rfl, rfl⟩ (hl.push _) (by simp; omega) fun h₁ hit₁ hs₁ => ?_))
    have hl₁ : IsTup h₁ l its.toArray := (hl.push _).extBut hs₁.extBut hlt
    rw [Nat.zero_add] at hit₁
    have hit₁' := hit₁
    obtain ⟨oi, hoi, _⟩ := hit₁'
    have hl₁' := hl₁
    obtain ⟨ol, hol, _⟩ := hl₁'
    simp only [List.drop_zero]
    rw [if_neg (show ¬ ((its.take i).length < i) by rw [hfl]; omega)]
    refine wpAny_bind (wpAny_holding (kun_collect (s := { s with heap := h₁ }) (T := "tuple_iterator") (.inr (.inr (.inr rfl))) (Walks.tuple (A := A.in1) hh s.heap.objs.size l hlt its.toArray) (fun j u st => st.1.typeIs) (k := i) (by simp; omega) ⟨hit₁, hl₁⟩ (Heap.lt_size hoi) (Heap.lt_size hol) (fun h₂ tk hk => ?_) (by rw [sizeLine_eq]; simp; omega)))
    show wpAny _ _ (if (its.drop i).length < n - 1 - i then _ else _) _ _ _
    rw [if_neg hrl]
    exact fin h₂ tk fun b o hb e => hk b o hb (hs₁.extBut b o hb (Heap.get?_push_of_some _ e))
end
section
variable {X : Cx} {Z : Ent} {pos : Pos}
def gStarR (K : PySem.W.Frag) (n i : Nat) (t : TGs) : TG := fun v σ H Q => ∃ a xs, v = .ref a ∧ (SqL K H a xs ∨ SqT K H a xs) ∧ n ≤ xs.length + 1 ∧ xs.length ≤ 16384 ∧
  ∀ p, H p = none → t (xs.take i ++ [.ref p] ++ (xs.drop i).drop (xs.length + 1 - n)) σ (upd H p (.lst ((xs.drop i).take (xs.length + 1 - n)))) Q
theorem vals_take : ∀ {xs : List V} {us : List Value} (n : Nat), Vals xs us → Vals (xs.take n) (us.take n)
  | _, _, 0, _ => .nil
  | _, _, _ + 1, .nil => .nil
  | _, _, n + 1, .cons h t => .cons h (vals_take n t)
theorem vals_drop : ∀ {xs : List V} {us : List Value} (n : Nat), Vals xs us → Vals (xs.drop n) (us.drop n)
  | _, _, 0, h => h
  | _, _, _ + 1, .nil => .nil
  | _, _, n + 1, .cons _ t => vals_drop n t
theorem pg_star {es : List Expr} {k : Nat} {t : TGs} {n i : Nat} (hc : X.calm = true) (h : PGs X es t) (hi : i < n)
    (hn : (assignEach es X.env).length = n := by rfl) (hst : (assignEach es X.env).findIdx? (·.1) = some i := by rfl) : PG X (.Tuple es k pos) (gStarR X.K n i t) := by
  refine ⟨fun pins s σ H v u Q I r hw => ?_⟩
  obtain ⟨a, xs, e1, hq, hl, hz, hw⟩ := hw
  subst e1
  cases r
  have key : ∀ its : List Value, Vals xs its → (s.heap.IsList a its.toArray ∨ IsTup s.heap a its.toArray) → wpAny (model X.prog X.w) X.A (assign (.Tuple es k pos) X.env (.ref a)) (fun _ s' => ∃ σ' H', Inv X pins σ' H' s' ∧ Q σ' H') X.xe s := by
    intro its rv hs
    have ln := rv.length
    rw [assign_Tuple]
    refine wpAny_bind (wpAny_standAt ?_)
    unfold unpack
    rw [hn, hst]
    refine wpAny_bind (wpAny_holding (star_items hs (I.ok.hd hc) hi (by omega) (by omega) fun h' tk hk => ?_))
    have I1 : Inv X pins σ H { s with heap := h', toks := tk } := I.kept (t' := tk) hk
    have I2 := I1.lnew (t' := tk) (vals_take (xs.length + 1 - n) (vals_drop i rv)) (by rw [List.length_take, List.length_drop, sizeLine_eq]; omega)
    have q := hw _ I1.fresh
    rw [ln] at I2 q
    exact h.run pins _ σ _ _ _ Q I2 (((vals_take i rv).append (.cons (show L2.RelV (V.ref h'.objs.size) (Value.ref h'.objs.size) from rfl) .nil)).append (vals_drop _ (vals_drop i rv))) q
  rcases hq with hq | hq
  · obtain ⟨its, rv, pl, _⟩ := I.list hq
    exact key its rv (.inl pl.isList)
  · obtain ⟨its, rv, ht, _⟩ := I.tuple hq
    exact key its rv (.inr ht)
theorem dgs_consS {e : Expr} {es : List Expr} {ts us : List Nat} {t : DG} {u : DGs} {p1 : Pos} (h1 : Dg X Z e ts t) (h2 : Dgs X Z es us u)
    (hs : (assignEach (.Starred e p1 :: es) X.env).map (·.2) = assign e X.env :: (assignEach es X.env).map (·.2) := by rfl) : Dgs X Z (.Starred e p1 :: es) (ts ++ us) (gsCons t u) := by
  have pg : PGs X (.Starred e p1 :: es) (gCons (lG X.K Z ts t) (lGs X.K Z us u)) := by
    refine ⟨fun pins s σ H vs us Q I r h => ?_⟩
    obtain ⟨v, vr, e1, h⟩ := h
    subst e1
    cases r with
    | cons r rr =>
      rw [hs]
      refine assignInOrder_cons (thn (h1.run.run pins s σ H _ _ _ I r h) fun _ s1 ⟨σ1, H1, I1, q1⟩ => ?_)
      exact h2.run.run pins s1 σ1 H1 _ _ Q I1 rr q1
  refine ⟨pgs_imp pg fun vs σ H Q ⟨Hs, δ, ds, R, dps, q⟩ => ?_, fun ds δ Q Q' hq q => ?_⟩
  · cases dps with
    | nil => exact q.elim
    | cons d1 d2 => exact ⟨_, _, rfl, Hs, δ, _, R, d1, h1.mono _ _ _ _ (fun δ1 q σ1 R1 a1 => ⟨Hs, δ1, _, R1, d2, h2.mono _ _ _ _ (fun δ2 q σ2 R2 a2 => q σ2 R2 (a1.trans a2)) q⟩) q⟩
  · cases ds with
    | nil => exact q
    | cons d r => exact h1.mono _ _ _ _ (fun δ1 q => h2.mono _ _ _ _ hq q) q
def rStar (n i : Nat) (d : PyData) (Q : List PyData → Prop) : Prop := match d with
  | .tuple xs => (n ≤ xs.length + 1 ∧ xs.length ≤ 16384) ∧ Q (xs.take i ++ [.list ((xs.drop i).take (xs.length + 1 - n))] ++ (xs.drop i).drop (xs.length + 1 - n))
  | .list xs => (n ≤ xs.length + 1 ∧ xs.length ≤ 16384) ∧ Q (xs.take i ++ [.list ((xs.drop i).take (xs.length + 1 - n))] ++ (xs.drop i).drop (xs.length + 1 - n))
  | _ => False
theorem star_t {n i : Nat} {xs : List PyData} {Q : List PyData → Prop} : rStar n i (.tuple xs) Q = ((n ≤ xs.length + 1 ∧ xs.length ≤ 16384) ∧ Q (xs.take i ++ [.list ((xs.drop i).take (xs.length + 1 - n))] ++ (xs.drop i).drop (xs.length + 1 - n))) := rfl
theorem star_l {n i : Nat} {xs : List PyData} {Q : List PyData → Prop} : rStar n i (.list xs) Q = ((n ≤ xs.length + 1 ∧ xs.length ≤ 16384) ∧ Q (xs.take i ++ [.list ((xs.drop i).take (xs.length + 1 - n))] ++ (xs.drop i).drop (xs.length + 1 - n))) := rfl
theorem rStar_mono {n i : Nat} {d : PyData} {Q Q' : List PyData → Prop} (h : ∀ xs, Q xs → Q' xs) (q : rStar n i d Q) : rStar n i d Q' := by
  cases d <;> first | exact ⟨q.1, h _ q.2⟩ | exact q
def dAsgS (n i : Nat) (t : DE) (g : DGs) : DS := fun N δ => t δ fun d δ' => rStar n i d fun ds => g ds δ' N.nx
theorem ds_asgS {es : List Expr} {e : Expr} {k n i : Nat} {ts : List Nat} {t : DE} {g : DGs} {p1 : Pos} (hc : X.calm = true) (he : De X Z e t) (hg : Dgs X Z es ts g) (hi : i < n)
    (hn : (assignEach es X.env).length = n := by rfl) (hst : (assignEach es X.env).findIdx? (·.1) = some i := by rfl)
    (hs : swapsWithSole [.Tuple es k p1] e pos.line X.env = pure false := by rfl) (hw : swappedStores [.Tuple es k p1] e X.env = pure none := by rfl)
    (h1 : (assignEach [.Tuple es k p1] X.env).map (·.2) = [assign (.Tuple es k p1) X.env] := by rfl) : Ds X Z (.Assign [.Tuple es k p1] e pos) (dAsgS n i t g) := by
  refine ⟨ps_imp (ps_asg he.run (pg_star hc hg.run hi hn hst) hs hw h1) fun D σ H ⟨Hs, δ, N, R, ok, q⟩ => ⟨Hs, δ, R, he.mono _ _ _ (fun d δ' q v Hs' H' s R' dp => ?_) q⟩⟩
  have go : ∀ (a : Addr) (xs : List V) (ds : List PyData), v = .ref a → (SqL X.K H' a xs ∨ SqT X.K H' a xs) → DpAll X.K Hs' xs ds → (n ≤ ds.length + 1 ∧ ds.length ≤ 16384) ∧ g (ds.take i ++ [.list ((ds.drop i).take (ds.length + 1 - n))] ++ (ds.drop i).drop (ds.length + 1 - n)) δ' N.nx → gStarR X.K n i (lGs X.K Z ts g) v σ H' D.nx := by
    intro a xs ds e1 hs dps q
    have ln := dps.len
    refine ⟨a, xs, e1, hs, by omega, by omega, fun p np => ?_⟩
    have s2 : ∀ ys, Same Hs' (upd Hs' p (.lst ys)) := fun _ => same_new (R'.hsn np)
    refine ⟨_, δ', ds.take i ++ [.list ((ds.drop i).take (ds.length + 1 - n))] ++ (ds.drop i).drop (ds.length + 1 - n), R'.alloc np, ?_, hg.mono _ _ _ _ (fun δ2 q σ2 R2 _ => ok.nx σ2 δ2 _ _ (s.trans (s2 _)) R2 q) q.2⟩
    rw [ln]
    exact (((dps.take i).up (s2 _)).app (.cons (.lst (SqL.of upd_same) (((dps.drop i).take _).up (s2 _))) .nil)).app (((dps.drop i).drop _).up (s2 _))
  cases dp with
  | lst hs ha => exact go _ _ _ rfl (.inl (R'.sub.seq hs)) ha q
  | tup hs ha => exact go _ _ _ rfl (.inr (sqt_mono R'.sub hs)) ha q
  | _ => exact q.elim
instance {n i : Nat} {ta : DE} {gs : DGs} [EMono ta] [GsMono gs] : SMono (dAsgS n i ta gs) := ⟨fun N N' δ le q => EMono.m (t := ta) _ _ _ (fun _ _ z => rStar_mono (fun _ z => GsMono.m (t := gs) _ _ _ _ (fun _ z => le.nx _ z) z) z) q⟩
end
end DL

namespace DL
open PySem PySem.Spec L2 DM PyProof.Rows
section
variable {X : Cx} {Z : Ent} {pos : Pos}
/-! ### powers of great numbers -/
def CPowB (i j : Int) : Prop := 0 ≤ j ∧ (Builtin.Int.intBits i : Int) * j ≤ 2 ^ 27
abbrev rPowB : D2 := rII CPowB fun i j => .int (i ^ j.toNat)
theorem op_powB : OpR X (binaryOp .Pow) (rI CPowB fun i j => .int (i ^ j.toNat)) := opI fun _ _ _ _ _ _ _ hc q => pow_int hc.1 hc.2 q
theorem od_powB : OpD X Z (binaryOp .Pow) rPowB := opd_I op_powB fun _ _ _ => .int _
theorem powB {i j : Int} {b : Nat} (h : i.natAbs < 2 ^ b) (h0 : 0 ≤ j) (hb : (b : Int) * j ≤ 2 ^ 27) : CPowB i j := by
  refine ⟨h0, ?_⟩
  have hle : Builtin.Int.intBits i ≤ b := by
    by_cases z : i = 0
    · subst z
      exact Nat.zero_le _
    · exact bits_le h z
  have := Int.mul_le_mul_of_nonneg_right (show (Builtin.Int.intBits i : Int) ≤ b by omega) h0
  omega
theorem powB64 {i j : Int} (h1 : -18446744073709551616 < i) (h2 : i < 18446744073709551616) (h3 : 0 ≤ j) (h4 : j ≤ 1000000) : CPowB i j :=
  powB (b := 64) (by have : (2 : Nat) ^ 64 = 18446744073709551616 := by decide
                     omega) h3 (by omega)
/-! ### lists of one's own lent to an expression that tells flat things -/
def flatD : PyData → Bool
  | .none => true
  | .bool _ => true
  | .int _ => true
  | .str _ => true
  | _ => false
theorem dp_flat {K : Fg} {H H' : Hp} {v : V} {d : PyData} (h : flatD d = true) (p : Dp K H v d) : Dp K H' v d := by
  cases p with
  | non => exact .non
  | bl b => exact .bl b
  | int i => exact .int i
  | str x => exact .str x
  | lst _ _ => cases h
  | tup _ _ => cases h
  | ins _ _ _ _ _ => cases h
  | dct _ _ _ => cases h
theorem dpa_flatD {K : Fg} {H H' : Hp} : ∀ {vs : List V} {ds : List PyData}, ds.all flatD = true → DpAll K H vs ds → DpAll K H' vs ds
  | _, _, _, .nil => .nil
  | _, _, h, .cons a t => by
    rw [List.all_cons, Bool.and_eq_true] at h
    exact .cons (dp_flat h.1 a) (dpa_flatD h.2 t)
def unown : Option Sl → Option Sl
  | some (.sh d) => some (.sh d)
  | some (.ow _ xs) => some (.sh (.list xs))
  | some (.ob _ _) => none
  | some (.xn _) => none
  | none => none
theorem unown_sh {d : PyData} : unown (some (.sh d)) = some (.sh d) := rfl
theorem unown_ow {p : Bool} {xs : List PyData} : unown (some (.ow p xs)) = some (.sh (.list xs)) := rfl
theorem unown_none : unown none = none := rfl
def lent (δ : DSt) (i : Nat) (xs : List PyData) : DSt := (δ.map unown).set i (some (.sh (.list xs)))
/-- all lists of one's own shared for a while -/
theorem lend_all {K : Fg} {Hs H : Hp} {σ : L2.St} {δ : DSt} (R : Rl K Z Hs H σ δ) : ∃ Hs1, Same Hs Hs1 ∧ Rl K (.at H Hs1 [] []) Hs1 H σ (δ.map unown) := by
  classical
  let own : Addr → Prop := fun b => ∃ (j : Nat) (q : Bool) (ys : List PyData), δ[j]? = some (some (Sl.ow q ys)) ∧ σ[j]? = some (some (V.ref b))
  let Hs1 : Hp := fun b => if own b then H b else Hs b
  have nOwn : ∀ b o, Hs b = some o → ¬ own b := fun b o e ⟨j, q, ys, h1, h2⟩ => by
    obtain ⟨a, ws, k1, k2, k3, _⟩ := R.own j q ys h1
    rw [k1] at h2
    cases h2
    rw [k3] at e
    cases e
  have e1 : Same Hs Hs1 := fun b o e => by
    show (if own b then H b else Hs b) = some o
    rw [if_neg (nOwn b o e)]
    exact e
  have sub : Same Hs1 H := fun b o e => by
    have e : (if own b then H b else Hs b) = some o := e
    split at e
    · exact e
    · exact R.sub b o e
  have noow : ∀ (j : Nat) (s : Sl), (δ.map unown)[j]? = some (some s) → s.own = false ∧ s.prm = false := fun j s z => by
    rw [List.getElem?_map] at z
    cases w : δ[j]? with
    | none => rw [w] at z; cases z
    | some o =>
      rw [w] at z
      cases o with
      | none => cases z
      | some s =>
        cases s with
        | sh d => cases z; exact ⟨rfl, rfl⟩
        | ow p xs => cases z; exact ⟨rfl, rfl⟩
        | ob p o => cases z
        | xn C => cases z
  refine ⟨Hs1, e1, ⟨by rw [List.length_map, R.len], sub, Same.refl _, fun b o e _ => e, fun b n => .inl n, fun b e => (nomatch e), fun j d z => ?_, ⟨fun _ => [], ⟨fun j s z o => ?_, fun _ _ => rfl, fun i a m => (nomatch m), fun i a m => (nomatch m), fun i s a _ _ m => (nomatch m), fun i j a n m => (nomatch m), fun i a o m => nomatch m⟩⟩, fun b o m => (nomatch m), fun j s z p => ?_, fun j C z => ?_⟩⟩
  rotate_left
  · rw [(noow j s z).1] at o
    cases o
  · rw [(noow j s z).2] at p
    cases p
  · rw [List.getElem?_map] at z
    cases w : δ[j]? with
    | none => rw [w] at z; cases z
    | some o =>
      rw [w] at z
      cases o with
      | none => cases z
      | some s => cases s <;> cases z
  rw [List.getElem?_map] at z
  cases w : δ[j]? with
  | none => rw [w] at z; cases z
  | some o =>
    rw [w] at z
    cases o with
    | none => cases z
    | some s =>
      cases s with
      | sh d' =>
        cases z
        obtain ⟨v, q1, q2⟩ := R.shr j d w
        exact ⟨v, q1, q2.up e1⟩
      | ow p xs =>
        cases z
        obtain ⟨a, ws, k1, k2, k3, k4⟩ := R.own j p xs w
        refine ⟨.ref a, k1, .lst (SqL.of ?_) (k4.up e1)⟩
        show (if own a then H a else Hs a) = _
        rw [if_pos ⟨j, p, xs, w, k1⟩]
        exact k2
      | ob p o => cases z
      | xn C => cases z
theorem lend_in {K : Fg} {Hs H : Hp} {σ : L2.St} {δ : DSt} {i : Nat} {p : Bool} {xs : List PyData} (R : Rl K Z Hs H σ δ) (h : δ[i]? = some (some (Sl.ow p xs))) :
    ∃ Hs1, Rl K (.at H Hs1 [] []) Hs1 H σ (lent δ i xs) := by
  obtain ⟨Hs1, e1, R1⟩ := lend_all R
  refine ⟨Hs1, ?_⟩
  have e : lent δ i xs = δ.map unown := by
    have hi : i < (δ.map unown).length := by rw [List.length_map]; exact get_lt h
    have e2 : (δ.map unown)[i]? = some (some (.sh (.list xs))) := by rw [List.getElem?_map, h]; rfl
    obtain ⟨_, e3⟩ := List.getElem?_eq_some_iff.mp e2
    unfold lent
    rw [← e3]
    exact List.set_getElem_self hi
  rw [e]
  exact R1
theorem lend_out {K : Fg} {Hs Hs1 Hs2 H H2 : Hp} {σ : L2.St} {δ δ2 : DSt} (R : Rl K Z Hs H σ δ) (R2 : Rl K (.at H Hs1 [] []) Hs2 H2 σ δ2) : Rl K Z Hs H2 σ δ :=
  R.after (Hs' := Hs) (H' := H2) (Rl.mk0 (fun b o e => R2.fr b o (R.sub b o e) (fun z => nomatch z)) (Same.refl _) (fun b o e n => R2.fr b o e n) (fun b n => .inl n) (fun b e => nomatch e) (fun a o m => nomatch m))
def dLend (i : Nat) (t : DE) : DE := fun δ Q => match δ[i]? with
  | some (some (.ow _ xs)) => t (lent δ i xs) fun d _ => flatD d = true ∧ Q d δ
  | _ => t δ Q
theorem de_lend (i : Nat) {e : Expr} {t : DE} (h : ∀ Z : Ent, De X Z e t) : De X Z e (dLend i t) := by
  refine ⟨⟨fun pins s σ H Q I q => ?_⟩, fun δ Q Q' hq q => ?_⟩
  · obtain ⟨Hs, δ, R, q⟩ := q
    unfold dLend at q
    split at q
    · rename_i p xs e0
      obtain ⟨Hs1, R1⟩ := lend_in R e0
      refine (h (.at H Hs1 [] [])).run.run pins s σ H Q I ⟨_, _, R1, (h Z).mono _ _ _ (fun d δ' z v Hs2 H2 s2 R2 dp => ?_) q⟩
      exact z.2 v Hs H2 (Same.refl _) (lend_out R R2) (dp_flat z.1 dp)
    · exact (h Z).run.run pins s σ H Q I ⟨Hs, δ, R, q⟩
  · unfold dLend at q ⊢
    split at q
    · exact (h Z).mono _ _ _ (fun d δ' z => ⟨z.1, hq _ _ z.2⟩) q
    · exact (h Z).mono _ _ _ hq q
instance {i : Nat} {t : DE} [EMono t] : EMono (dLend i t) := ⟨fun δ Q Q' hq q => by
  unfold dLend at q ⊢
  split at q
  · exact EMono.m (t := t) _ _ _ (fun d δ' z => ⟨z.1, hq _ _ z.2⟩) q
  · exact EMono.m (t := t) _ _ _ hq q⟩
def dLendT (i : Nat) (t : DT) : DT := fun δ Q => match δ[i]? with
  | some (some (.ow _ xs)) => t (lent δ i xs) fun d _ => Q d δ
  | _ => t δ Q
theorem dt_lend (i : Nat) {e : Expr} {t : DT} (h : ∀ Z : Ent, Dt X Z e t) : Dt X Z e (dLendT i t) := by
  refine ⟨⟨fun pins s σ H Q I q => ?_⟩, fun δ Q Q' hq q => ?_⟩
  · obtain ⟨Hs, δ, R, q⟩ := q
    unfold dLendT at q
    split at q
    · rename_i p xs e0
      obtain ⟨Hs1, R1⟩ := lend_in R e0
      exact (h (.at H Hs1 [] [])).run.run pins s σ H Q I ⟨_, _, R1, (h Z).mono _ _ _ (fun d δ' z Hs2 H2 s2 R2 => z Hs H2 (Same.refl _) (lend_out R R2)) q⟩
    · exact (h Z).run.run pins s σ H Q I ⟨Hs, δ, R, q⟩
  · unfold dLendT at q ⊢
    split at q
    · exact (h Z).mono _ _ _ (fun d δ' z => hq _ _ z) q
    · exact (h Z).mono _ _ _ hq q
instance {i : Nat} {t : DT} [TMono t] : TMono (dLendT i t) := ⟨fun δ Q Q' hq q => by
  unfold dLendT at q ⊢
  split at q
  · exact TMono.m (t := t) _ _ _ (fun d δ' z => hq _ _ z) q
  · exact TMono.m (t := t) _ _ _ hq q⟩
def dLendO (i : Nat) (t : DL') : DL' := fun δ Q => match δ[i]? with
  | some (some (.ow _ xs)) => t (lent δ i xs) fun d _ => d.all flatD = true ∧ Q d δ
  | _ => t δ Q
theorem do_lend (i : Nat) {e : Expr} {t : DL'} (h : ∀ Z : Ent, Do X Z e t) : Do X Z e (dLendO i t) := by
  refine ⟨⟨fun pins s σ H Q I q => ?_⟩, fun δ Q Q' hq q => ?_⟩
  · obtain ⟨Hs, δ, R, q⟩ := q
    unfold dLendO at q
    split at q
    · rename_i p xs e0
      obtain ⟨Hs1, R1⟩ := lend_in R e0
      refine (h (.at H Hs1 [] [])).run.run pins s σ H Q I ⟨_, _, R1, (h Z).mono _ _ _ (fun d δ' z v Hs2 H2 s2 R2 f => ?_) q⟩
      have Rf := lend_out R R2
      obtain ⟨b, us, rfl, f1, f2, f3, f4, f5⟩ := FrO.lst f
      have hn : ∀ a ∈ [b], H a = none := fun a m => by rw [List.mem_singleton.mp m]; exact f4
      exact z.2 _ Hs H2 (Same.refl _) Rf ⟨[b], FrA.fresh R Rf (.ow f1 (dpa_flatD z.1 f3)) hn (fun a m => R.hsn (hn a m)) fun f' F => F.back R fun c o e => R2.fr c o e (fun z => nomatch z)⟩
    · exact (h Z).run.run pins s σ H Q I ⟨Hs, δ, R, q⟩
  · unfold dLendO at q ⊢
    split at q
    · exact (h Z).mono _ _ _ (fun d δ' z => ⟨z.1, hq _ _ z.2⟩) q
    · exact (h Z).mono _ _ _ hq q
instance {i : Nat} {t : DL'} [LMono t] : LMono (dLendO i t) := ⟨fun δ Q Q' hq q => by
  unfold dLendO at q ⊢
  split at q
  · exact LMono.m (t := t) _ _ _ (fun d δ' z => ⟨z.1, hq _ _ z.2⟩) q
  · exact LMono.m (t := t) _ _ _ hq q⟩
/-! ### xs.reverse(), xs.clear() -/
def dMut (i : Nat) (f : List PyData → List PyData) : DS := fun N δ => match δ[i]? with
  | some (some (.ow p xs)) => N.nx (δ.set i (some (.ow p (f xs))))
  | _ => False
theorem dpa_reverse {K : Fg} {H : Hp} {vs : List V} {ds : List PyData} (h : DpAll K H vs ds) : DpAll K H vs.reverse ds.reverse := dpa_rev h
theorem ds_rev (i : Nat) {x : Str} {p1 apos cpos : Pos} (hN : X.N[i]? = some x := by rfl) (hv : Vis X.env.scope x := by first | exact Or.inl rfl | exact Or.inr (Or.inl rfl) | exact Or.inr (Or.inr rfl))
    (hd : (x == ("__debug__" : Str)) = false := by decide) (hcd : (x == ("__classdict__" : Str)) = false := by decide) (hbase : attributeBase (.Name x p1) "reverse" X.env (eval (.Name x p1) X.env) = eval (.Name x p1) X.env := by rfl)
    (hline : (apos.endLine == cpos.line) = true := by rfl) (hsw : swapsWith (.Call (.Attribute (.Name x p1) "reverse" apos) [] [] cpos) none pos.line X.env = pure false := by rfl) :
    Ds X Z (.Expr (.Call (.Attribute (.Name x p1) "reverse" apos) [] [] cpos) pos) (dMut i List.reverse) := by
  refine ⟨ps_imp (ps_expr (pe_bm0 PySem.F.plainAttrs_list PySem.F.slot_list_reverse PySem.F.type_list_reverse mt_reverse (pe_var hN hv hd hcd) hbase hline) hsw) fun D σ H ⟨Hs, δ, N, R, ok, q⟩ => ?_⟩
  unfold dMut at q
  split at q
  · rename_i p xs e0
    obtain ⟨a, ws, hv, h2, h3, h4⟩ := R.own _ _ _ e0
    refine ⟨.ref a, hv, .inl ⟨rfl, _, SqL.of h2⟩, a, ws, rfl, rfl, h2, ?_⟩
    exact ok.nx _ _ Hs _ (Same.refl _) (R.mut e0 hv (dpa_reverse h4)) q
  · exact q.elim
theorem ds_clear (i : Nat) {x : Str} {p1 apos cpos : Pos} (hN : X.N[i]? = some x := by rfl) (hv : Vis X.env.scope x := by first | exact Or.inl rfl | exact Or.inr (Or.inl rfl) | exact Or.inr (Or.inr rfl))
    (hd : (x == ("__debug__" : Str)) = false := by decide) (hcd : (x == ("__classdict__" : Str)) = false := by decide) (hbase : attributeBase (.Name x p1) "clear" X.env (eval (.Name x p1) X.env) = eval (.Name x p1) X.env := by rfl)
    (hline : (apos.endLine == cpos.line) = true := by rfl) (hsw : swapsWith (.Call (.Attribute (.Name x p1) "clear" apos) [] [] cpos) none pos.line X.env = pure false := by rfl) :
    Ds X Z (.Expr (.Call (.Attribute (.Name x p1) "clear" apos) [] [] cpos) pos) (dMut i fun _ => []) := by
  refine ⟨ps_imp (ps_expr (pe_bm0 PySem.F.plainAttrs_list PySem.F.slot_list_clear PySem.F.type_list_clear mt_clear (pe_var hN hv hd hcd) hbase hline) hsw) fun D σ H ⟨Hs, δ, N, R, ok, q⟩ => ?_⟩
  unfold dMut at q
  split at q
  · rename_i p xs e0
    obtain ⟨a, ws, hv, h2, h3, h4⟩ := R.own _ _ _ e0
    refine ⟨.ref a, hv, .inl ⟨rfl, _, SqL.of h2⟩, a, ws, rfl, rfl, h2, ?_⟩
    exact ok.nx _ _ Hs _ (Same.refl _) (R.mut e0 hv .nil) q
  · exact q.elim
instance {i : Nat} {f : List PyData → List PyData} : SMono (dMut i f) := ⟨fun N N' δ le q => by
  unfold dMut at q ⊢
  split at q
  · exact le.nx _ q
  · exact q⟩
/-! ### a, b = e1, e2, both new lists of one's own -/
def dParO (i j : Nat) (t u : DL') : DS := fun N δ => t δ fun xs δ1 => u δ1 fun ys δ2 => N.nx ((δ2.set i (some (.ow false xs))).set j (some (.ow false ys)))
theorem ds_parO {i j : Nat} {x y : Str} {a b : Expr} {t u : DL'} {px py pt : Pos} {kt k2 pt2} (hN : X.N.Nodup) (hi : X.N[i]? = some x) (hj : X.N[j]? = some y) (hij : i ≠ j)
    (h1 : Do X Z a t) (h2 : ∀ Z : Ent, Do X Z b u)
    (hp : ∀ ta, PA X [a, b] ta → PS X (.Assign [.Tuple [.Name x px, .Name y py] kt pt] (.Tuple [a, b] k2 pt2) pos) (tPar i j ta)) (hsa : starEach [a, b] X.env = (false, eval a X.env) :: starEach [b] X.env := by rfl) (hsb : starEach [b] X.env = (false, eval b X.env) :: starEach [] X.env := by rfl) :
    Ds X Z (.Assign [.Tuple [.Name x px, .Name y py] kt pt] (.Tuple [a, b] k2 pt2) pos) (dParO i j t u) := by
  have hb : PE X b (fun σ H Q => ∃ Z : Ent, lO X.K Z u σ H Q) := ⟨fun pins s σ H Q I ⟨Z, q⟩ => (h2 Z).run.run pins s σ H Q I q⟩
  refine ⟨ps_imp (hp _ (pa_cons h1.run (pa_cons hb pa_nil hsb) hsa)) fun D σ H ⟨Hs, δ, N, R, ok, q⟩ => ⟨Hs, δ, R, h1.mono _ _ _ (fun xs δ1 q v Hs1 H1 s1 R1 f => ?_) q⟩⟩
  obtain ⟨a1, ws, rfl, f1, f2, f3, h0, hG, Rg⟩ := FrO.guard R1 f
  refine ⟨_, Hs1, δ1, Rg, (h2 Z).mono _ _ _ (fun ys δ2 q v2 Hs2 H2 s2 R2 g => ?_) q⟩
  obtain ⟨g1, g2, g3⟩ := R2.grd a1 _ (List.mem_cons_self ..)
  obtain ⟨B, g⟩ := g
  obtain ⟨gb, ne⟩ := g.ungd R2
  have R3 : Rl X.K Z Hs2 H2 σ δ2 := Rl.unguard0 R2
  have fa : FrO X.K Z Hs2 H2 σ δ2 (.ref a1) xs := by
    have := FrO.unguard hG h0 R2 (f3.up s2)
    rw [upd_id g1] at this
    exact this
  have at1 : At X.K Hs2 H2 (.ref a1) (.ow false xs) [a1] := .ow g1 (f3.up s2)
  have gb2 : FrA X.K Z Hs2 H2 (σ.set i (some (.ref a1))) (δ2.set i (some (.ow false xs))) v2 (.ow false ys) B := gb.put R3 (fun _ => at1) fun a m m' => ne (by rw [← List.mem_singleton.mp m']; exact m)
  exact ⟨_, _, rfl, ok.nx _ _ Hs2 H2 (s1.trans s2) ((R3.setO (i := i) fa).setO (i := j) ⟨B, gb2⟩) q⟩
instance {i j : Nat} {t u : DL'} [LMono t] [LMono u] : SMono (dParO i j t u) := ⟨fun N N' δ le q => LMono.m (t := t) _ _ _ (fun _ _ z => LMono.m (t := u) _ _ _ (fun _ _ z => le.nx _ z) z) q⟩
/-! ### max of a list of ints -/
def intsD : List PyData → Option (List Int)
  | [] => some []
  | .int b :: r => (intsD r).map (b :: ·)
  | _ => none
theorem ints_map : ∀ {ds : List PyData} {bs : List Int}, intsD ds = some bs → ds = bs.map .int
  | [], bs, h => by cases h; rfl
  | d :: r, bs, h => by
    cases d with
    | int b =>
      unfold intsD at h
      cases q : intsD r with
      | none => rw [q] at h; cases h
      | some cs =>
        rw [q] at h
        cases h
        rw [ints_map q]
        rfl
    | _ => cases h
theorem ints_of (bs : List Int) : intsD (bs.map .int) = some bs := by
  induction bs with
  | nil => rfl
  | cons b r ih => show (intsD (r.map .int)).map (b :: ·) = _; rw [ih]; rfl
def rMaxL : D1 := fun ds Q => match ds with
  | [.list xs] => ∃ ns, intsD xs = some ns ∧ 0 < ns.length ∧ ∀ m, m ∈ ns → (∀ y, y ∈ ns → y ≤ m) → Q (.int m)
  | _ => False
theorem maxL_l {xs : List PyData} {Q : PyData → Prop} : rMaxL [.list xs] Q = (∃ ns, intsD xs = some ns ∧ 0 < ns.length ∧ ∀ m, m ∈ ns → (∀ y, y ∈ ns → y ≤ m) → Q (.int m)) := rfl
instance : D1M rMaxL := ⟨fun ds Q Q' hq q => by
  unfold rMaxL at q ⊢
  split at q
  · obtain ⟨ns, e, h0, h⟩ := q
    exact ⟨ns, e, h0, fun m a b => hq _ (h m a b)⟩
  · exact q⟩
theorem cd_maxL (hc : X.calm = true) : ClD X Z (.builtin "max") rMaxL := by
  refine ⟨⟨_, cr_max hc, fun ds vs Hs H σ δ Q R dps q => ?_⟩, fun ds Q Q' => D1M.m (r := rMaxL) ds Q Q'⟩
  unfold rMaxL at q
  split at q
  · obtain ⟨ns, e, h0, q⟩ := q
    have e := ints_map e
    cases dps with
    | cons d1 d2 =>
      cases d2
      cases d1 with
      | lst hs ha =>
        rw [e] at ha
        have e2 := ha.toInts
        rw [e2] at hs
        exact ⟨_, ns, rfl, R.sub.seq hs, h0, fun m a b => q m a b _ Hs H (Same.refl _) R (.int _)⟩
  · exact q.elim
end
/-! ### calls by keywords of keyword-only parameters -/
section
variable {K : Fg} {x qual : Str} {params : Arguments} {body : List Stmt} {scope : Scope} {kws : List (Str × V)} {f : Addr} {fd : FuncData} {ps : List Str}
/-- all parameters are given, the keyword-only ones by keywords in their order -/
theorem kbA (F : FunD K x qual params body scope [] kws f fd) (n : Nat) (ks : List Str)
    (h : ∀ (kV doc pm : Value) (an : Option Addr) (cdv ct : Value) (us ws : List Value), us.length = n → ws.length = ks.length → bindArgs (PySem.W.fnOf x qual params body scope .none kV doc pm an cdv ct) ⟨us, ks.zip ws⟩ = pure (ps.zip (us ++ ws))) :
    KBn K fd ps n ks (fun us ws => us ++ ws) (fun vs zs => vs ++ zs) := by
  obtain ⟨oc, od, dV, kV, doc, pm, an, cdv, ct, osl, rfl, lk, hcd, hD, hK⟩ := F.ex
  rcases hD with ⟨_, rfl⟩ | ⟨e, _⟩
  · exact ⟨fun s us ws X l1 l2 => BindsTo.of_eq (h kV doc pm an cdv ct us ws l1 l2), fun r1 r2 => r1.append r2⟩
  · exact absurd rfl e
end
end DL
namespace DL
open PySem PySem.Spec L2 DM PyProof.Rows
section
variable {X : Cx} {Z : Ent} {pos : Pos}
variable {k n : Nat} {g : Addr} {fd : FuncData} {ps ks : List Str} {f : FP} {x : Str} {e : Expr} {es : List Expr} {kws : List Keyword} {t tk : DL'} {p : Pos} {gv : List Value → List Value → List Value} {gV : List V → List V → List V} {gD : List PyData → List PyData → List PyData}
def dCallNO (f : FP) (n m : Nat) (gD : List PyData → List PyData → List PyData) (t tk : DL') : DL' := fun δ Q => t δ fun ds δ1 => tk δ1 fun es δ2 => ds.length = n ∧ es.length = m ∧ f (gD ds es) fun r => match r with
  | .o xs => Q xs δ2
  | .d _ => False
theorem do_callN (F : FnOk X.prog X.w X.K X.mg X.base CX0 k g fd ps (spP X.K f)) (fm : FMono f) (hr : Room k X.A) (hg : Gl X x) (hm : X.mg x = some (.ref g)) (hk : PySem.W.keepIn X.K (.ref g) = true) (hb : KBn X.K fd ps n ks gv gV)
    (hG : ∀ H vs us ds es, DpAll X.K H vs ds → DpAll X.K H us es → DpAll X.K H (gV vs us) (gD ds es)) (ha : Da X Z (e :: es) t) (hkw : Dk X Z kws tk)
    (hall : (backToKw pos (keywordEach kws X.env)).all (·.1.isSome) = true := by rfl) (hks : (backToKw pos (keywordEach kws X.env)).filterMap (·.1) = ks := by rfl)
    (hdb : (x == ("__debug__" : Str)) = false := by decide) (he : starEach (e :: es) X.env = (false, eval e X.env) :: starEach es X.env := by rfl)
    (hpl : ((backTo pos (starEach (e :: es) X.env)).any (·.1) || (backToKw pos (keywordEach kws X.env)).any (·.1.isNone)) = false := by rfl) :
    Do X Z (.Call (.Name x p) (e :: es) kws pos) (dCallNO f n ks.length gD t tk) := by
  refine ⟨pe_imp (pe_callN F hr hg hm hk hb pass0 ha.run hkw.run hall hks hdb he hpl) fun σ H Q ⟨Hs, δ, R, q⟩ => ⟨Hs, δ, R, ha.mono _ _ _ (fun ds δ1 q vs Hs1 H1 s1 R1 dps => ⟨Hs1, δ1, R1, hkw.mono _ _ _ (fun es δ2 q us Hs2 H2 s2 R2 dus => ?_) q⟩) q⟩,
    fun δ Q Q' hq q => ha.mono _ _ _ (fun ds δ' z => hkw.mono _ _ _ (fun es δ2 z => ⟨z.1, z.2.1, fm.m _ _ _ (fun r z => ?_) z.2.2⟩) z) q⟩
  · refine ⟨by rw [dps.len]; exact q.1, by rw [dus.len]; exact q.2.1, ?_⟩
    have := call_run (dvs := []) (dd := []) fm (fun _ => .nil) R2 (hG _ _ _ _ _ (dps.up s2) dus) (Q := Q) (fm.m _ _ _ (fun r q v Hs3 H3 s3 R3 c => ?_) (by rw [List.append_nil]; exact q.2.2))
    · rw [List.append_nil] at this
      exact this
    · cases r with
      | d d => exact q.elim
      | o xs => exact q v Hs3 H3 ((s1.trans s2).trans s3) R3 c
  · cases r with
    | d d => exact z
    | o xs => exact hq _ _ z
instance {l l' : DL'} [FMono f] [LMono l] [LMono l'] {m : Nat} : LMono (dCallNO f n m gD l l') := ⟨fun δ Q Q' hq q => LMono.m (t := l) _ _ _ (fun ds δ1 z => LMono.m (t := l') _ _ _ (fun es δ2 z => ⟨z.1, z.2.1, FMono.m (f := f) _ _ _ (fun r z => by
  cases r with
  | d d => exact z
  | o xs => exact hq _ _ z) z.2.2⟩) z) q⟩
/-- a module's constant as a default -/
theorem cst_ref {K : Fg} {mg : Str → Option Value} {x : Str} {d : PyData} (c : CstD K mg x d) (h : mg x = some (.ref (He.ga K x))) (H : Hp) : Dp K H (V.ref (He.ga K x)) d := by
  obtain ⟨v, u, e, r, p⟩ := c
  rw [h] at e
  cases e
  cases v with
  | ref a =>
    cases r
    exact p H
  | _ => first | (cases r; done) | (obtain ⟨_, r⟩ := r; cases r)
end
end DL

namespace DM
/-! places of ways: all numbers over one bottom -/
def gD : Int := 20881492632000
def Gr (u : Rat) : Prop := ∃ a : Int, u = Rat.divInt a gD
theorem gD_ne : ((gD : Int) : Rat) ≠ 0 := DL.rz (by decide)
theorem Gr.add {u v : Rat} (hu : Gr u) (hv : Gr v) : Gr (u + v) := by
  obtain ⟨a, rfl⟩ := hu
  obtain ⟨b, rfl⟩ := hv
  refine ⟨a + b, ?_⟩
  simp only [Rat.divInt_eq_div, Rat.intCast_add]
  have := gD_ne
  grind
theorem gr_frac {a m : Int} (hm : m ≠ 0) (h : m ∣ gD) : Gr (Rat.divInt a m) := by
  obtain ⟨k, hk⟩ := h
  refine ⟨a * k, ?_⟩
  have z1 : (m : Rat) ≠ 0 := fun e => hm (Rat.intCast_eq_zero_iff.mp e)
  have z2 := gD_ne
  rw [hk, Rat.intCast_mul] at z2
  rw [hk]
  simp only [Rat.divInt_eq_div, Rat.intCast_mul]
  have z3 : (k : Rat) ≠ 0 := fun e => z2 (by rw [e]; grind)
  grind
theorem Gr.bd {u : Rat} {k : Nat} (h : Gr u) (h1 : -(k : Rat) ≤ u) (h2 : u ≤ (k : Rat)) : ∃ a : Int, u = Rat.divInt a gD ∧ a.natAbs ≤ k * 20881492632000 := by
  obtain ⟨a, e⟩ := h
  refine ⟨a, e, ?_⟩
  have z := gD_ne
  have e2 : (a : Rat) = u * (gD : Rat) := by
    rw [e, Rat.divInt_eq_div]
    grind
  have pos : (0 : Rat) < ((gD : Int) : Rat) := by
    rw [show (0 : Rat) = ((0 : Int) : Rat) from rfl]
    exact Rat.intCast_lt_intCast.mpr (by decide)
  have l1 : (a : Rat) ≤ (((k : Int) * gD : Int) : Rat) := by
    rw [e2, Rat.intCast_mul]
    have : 0 ≤ ((k : Rat) - u) * ((gD : Int) : Rat) := Rat.mul_nonneg (by grind) (by grind)
    have e3 : (((k : Int)) : Rat) = (k : Rat) := rfl
    rw [e3]
    grind
  have l2 : ((-((k : Int) * gD) : Int) : Rat) ≤ (a : Rat) := by
    rw [e2, Rat.intCast_neg, Rat.intCast_mul]
    have : 0 ≤ (u + (k : Rat)) * ((gD : Int) : Rat) := Rat.mul_nonneg (by grind) (by grind)
    have e3 : (((k : Int)) : Rat) = (k : Rat) := rfl
    rw [e3]
    grind
  have m1 := Rat.intCast_le_intCast.mp l1
  have m2 := Rat.intCast_le_intCast.mp l2
  unfold gD at m1 m2
  omega
def Pl (k : Nat) (p : Rat × Rat) : Prop := (Gr p.1 ∧ Gr p.2) ∧ (-(k : Rat) ≤ p.1 ∧ p.1 ≤ (k : Rat)) ∧ (-(k : Rat) ≤ p.2 ∧ p.2 ≤ (k : Rat))
theorem Pl.add {k m : Nat} {p q : Rat × Rat} (hp : Pl k p) (hq : Pl m q) : Pl (k + m) (p.1 + q.1, p.2 + q.2) := by
  obtain ⟨⟨a1, a2⟩, ⟨b1, b2⟩, c1, c2⟩ := hp
  obtain ⟨⟨a1', a2'⟩, ⟨b1', b2'⟩, c1', c2'⟩ := hq
  have e : ((k + m : Nat) : Rat) = (k : Rat) + (m : Rat) := Rat.natCast_add k m
  refine ⟨⟨a1.add a1', a2.add a2'⟩, ?_, ?_⟩ <;> rw [e] <;> exact ⟨by simp only; grind, by simp only; grind⟩
theorem Pl.mono {k m : Nat} {p : Rat × Rat} (hp : Pl k p) (h : k ≤ m) : Pl m p := by
  obtain ⟨a, ⟨b1, b2⟩, c1, c2⟩ := hp
  have e : (k : Rat) ≤ (m : Rat) := Rat.natCast_le_natCast.mpr h
  exact ⟨a, ⟨by grind, by grind⟩, by grind, by grind⟩
theorem Pl.bc {k : Nat} {p : Rat × Rat} (h : Pl k p) (hk : k ≤ 50000) : DL.Bc 61 p := by
  obtain ⟨⟨a1, a2⟩, ⟨b1, b2⟩, c1, c2⟩ := h
  obtain ⟨a, e1, l1⟩ := a1.bd b1 b2
  obtain ⟨b, e2, l2⟩ := a2.bd c1 c2
  have : (2 : Nat) ^ 61 = 2305843009213693952 := by decide
  exact ⟨a, b, gD, by decide, e1, e2, by omega, by omega, by decide⟩
/-! headings of a small bottom -/
structure Hd (m : Nat) (u : Rat × Rat) : Prop where
  one : u.1 * u.1 + u.2 * u.2 = 1
  d1 : u.1.den ≤ m
  d2 : u.2.den = u.1.den
theorem den_one_sub (z : Rat) : (1 - z).den = z.den := by
  have e : (1 - z : Rat) = Rat.divInt ((z.den : Int) - z.num) (z.den : Int) := by
    rw [Rat.sub_def', ← Rat.divInt_ofNat]
    show Rat.divInt (1 * (z.den : Int) - z.num * ((1 : Nat) : Int)) ((1 * z.den : Nat) : Int) = _
    rw [Int.one_mul, Nat.one_mul]
    rw [show z.num * ((1 : Nat) : Int) = z.num by omega]
  rw [e, Rat.den_divInt, if_neg (by have := z.den_pos; omega)]
  have g : Int.gcd (z.den : Int) ((z.den : Int) - z.num) = 1 := by
    have h1 : Int.gcd (z.den : Int) ((z.den : Int) - z.num) ∣ Int.gcd z.num z.den := by
      have a := Int.gcd_dvd_left (z.den : Int) ((z.den : Int) - z.num)
      have b := Int.gcd_dvd_right (z.den : Int) ((z.den : Int) - z.num)
      have c : ((Int.gcd (z.den : Int) ((z.den : Int) - z.num) : Nat) : Int) ∣ z.num := by
        have := Int.dvd_sub a b
        rw [show (z.den : Int) - ((z.den : Int) - z.num) = z.num by omega] at this
        exact this
      exact Int.dvd_gcd c a
    have h2 : Int.gcd z.num z.den = 1 := z.reduced
    rw [h2] at h1
    exact Nat.dvd_one.mp h1
  rw [g, Nat.div_one, Int.natAbs_natCast]
theorem hd_den {u : Rat × Rat} (h : u.1 * u.1 + u.2 * u.2 = 1) : u.2.den = u.1.den := by
  have key : ∀ x y : Rat, x * x + y * y = 1 → y.den * y.den = x.den * x.den := by
    intro x y e
    have e2 : y * y = 1 - x * x := by grind
    have dx := rat_sq_den x
    have nx := rat_sq_num x
    have dy := rat_sq_den y
    have e3 : (y * y).den = (x * x).den := by
      rw [e2]
      exact den_one_sub _
    rw [dy, dx] at e3
    exact e3
  have := key u.1 u.2 h
  have h1 := u.1.den_pos
  have h2 := u.2.den_pos
  rcases Nat.lt_trichotomy u.2.den u.1.den with z | z | z
  · have := Nat.mul_lt_mul'' z z
    omega
  · exact z
  · have := Nat.mul_lt_mul'' z z
    omega
theorem unit_le {x y : Rat} (h : x * x + y * y = 1) : -1 ≤ x ∧ x ≤ 1 := by
  have := rsq_nn y
  constructor
  · apply Classical.byContradiction
    intro z
    have := Rat.mul_pos (show 0 < -x - 1 by grind) (show 0 < -x + 1 by grind)
    grind
  · apply Classical.byContradiction
    intro z
    have := Rat.mul_pos (show 0 < x - 1 by grind) (show 0 < x + 1 by grind)
    grind
theorem unit_bd {x y : Rat} {n : Nat} (h : x * x + y * y = 1) (hd : x.den < 2 ^ n) : Bd (n + 1) x := by
  obtain ⟨h1, h2⟩ := unit_le h
  have e : (x.num : Rat) = x * ((x.den : Int) : Rat) := by
    have z : ((x.den : Int) : Rat) ≠ 0 := DL.rz (by have := x.den_pos; omega)
    have e : x = (x.num : Rat) / ((x.den : Int) : Rat) := by rw [← Rat.divInt_eq_div]; exact (Rat.num_divInt_den x).symm
    generalize (x.num : Rat) = a at *
    generalize ((x.den : Int) : Rat) = b at *
    rw [e]
    grind
  have pos : (0 : Rat) < ((x.den : Int) : Rat) := by
    rw [show (0 : Rat) = ((0 : Int) : Rat) from rfl]
    exact Rat.intCast_lt_intCast.mpr (by have := x.den_pos; omega)
  have l1 : (x.num : Rat) ≤ ((x.den : Int) : Rat) := by
    have : 0 ≤ (1 - x) * ((x.den : Int) : Rat) := Rat.mul_nonneg (by grind) (by grind)
    grind
  have l2 : ((-(x.den : Int) : Int) : Rat) ≤ (x.num : Rat) := by
    have : 0 ≤ (1 + x) * ((x.den : Int) : Rat) := Rat.mul_nonneg (by grind) (by grind)
    rw [Rat.intCast_neg]
    grind
  have m1 := Rat.intCast_le_intCast.mp l1
  have m2 := Rat.intCast_le_intCast.mp l2
  have : (2 : Nat) ^ (n + 1) = 2 * 2 ^ n := by rw [Nat.pow_succ]; omega
  exact ⟨by omega, by omega⟩
theorem Hd.bd {m n : Nat} {u : Rat × Rat} (h : Hd m u) (hm : m < 2 ^ n) : Bd (n + 1) u.1 ∧ Bd (n + 1) u.2 :=
  ⟨unit_bd h.one (Nat.lt_of_le_of_lt h.d1 hm), unit_bd (y := u.1) (by have := h.one; grind) (by rw [h.d2]; exact Nat.lt_of_le_of_lt h.d1 hm)⟩
theorem dvd25 {m : Nat} (h0 : 0 < m) (h : m ≤ 25) : (m : Int) ∣ 26771144400 := by
  have : ∀ k : Fin 25, ((k.val + 1 : Nat) : Int) ∣ 26771144400 := by decide
  have := this ⟨m - 1, by omega⟩
  have e : m - 1 + 1 = m := by omega
  simp only [e] at this
  exact this
/-- a heading of a small bottom, so far -/
theorem Hd.pl {m : Nat} {u : Rat × Rat} {a b : Int} (h : Hd m u) (hm : m ≤ 25) (hb : 0 < b) (hb4 : b ∣ 12) (ha : 0 ≤ a) (hab : a ≤ 40 * b) : Pl 40 (u.1 * Rat.divInt a b, u.2 * Rat.divInt a b) := by
  have dn := u.1.den_pos
  have dv : ((u.1.den : Int)) * b ∣ gD := by
    have d1 := Int.mul_dvd_mul (dvd25 dn (Nat.le_trans h.d1 hm)) hb4
    exact Int.dvd_trans d1 (by decide)
  have g : ∀ x : Rat, x.den = u.1.den → Gr (x * Rat.divInt a b) := by
    intro x hx
    have e : x * Rat.divInt a b = Rat.divInt (x.num * a) ((x.den : Int) * b) := by
      have e1 : x = Rat.divInt x.num (x.den : Int) := (Rat.num_divInt_den x).symm
      have e2 : Rat.divInt x.num (x.den : Int) * Rat.divInt a b = Rat.divInt (x.num * a) ((x.den : Int) * b) := Rat.divInt_mul_divInt ..
      rw [← e2, ← e1]
    rw [e, hx]
    exact gr_frac (Int.mul_ne_zero (by omega) (by omega)) dv
  have s0 : 0 ≤ Rat.divInt a b := (dI_le hb).mpr ha
  have s1 : Rat.divInt a b ≤ 40 := by
    have e : Rat.divInt (a - 40 * b) b = Rat.divInt a b - 40 := by
      have z := DL.rz hb
      simp only [Rat.divInt_eq_div, Rat.intCast_sub, Rat.intCast_mul]
      rw [show (((40 : Int)) : Rat) = 40 from rfl]
      grind
    have := dI_le (a := -(a - 40 * b)) hb
    have e2 : Rat.divInt (-(a - 40 * b)) b = 40 - Rat.divInt a b := by rw [DL.dI_neg, e]; grind
    rw [e2] at this
    have := this.mpr (by omega)
    grind
  have b1 := unit_le h.one
  have b2 := unit_le (x := u.2) (y := u.1) (by have := h.one; grind)
  generalize Rat.divInt a b = S at *
  have e40 : ((40 : Nat) : Rat) = 40 := rfl
  have aux : ∀ x : Rat, -1 ≤ x ∧ x ≤ 1 → -40 ≤ x * S ∧ x * S ≤ 40 := by
    intro x ⟨h1, h2⟩
    have q1 := Rat.mul_nonneg (show 0 ≤ 1 - x by grind) s0
    have q2 := Rat.mul_nonneg (show 0 ≤ 1 + x by grind) s0
    exact ⟨by grind, by grind⟩
  refine ⟨⟨g u.1 rfl, g u.2 h.d2⟩, ?_, ?_⟩ <;> rw [e40]
  · exact aux _ b1
  · exact aux _ b2
end DM
namespace DL
open PySem PySem.Spec L2 DM
/-- a statement, what follows kept as a letter -/
theorem seq_k {s s' : DS} {N : DEnds} {δ : DSt} (h : ∀ K : DSt → Prop, (∀ δ, s' N δ → K δ) → s { N with nx := K } δ) : dSeq s s' N δ := h _ (fun _ z => z)
/-! a product with one small side -/
section
variable {X : Cx} {Z : Ent}
abbrev rMulS : D2 := rII CMul fun i j => .int (i * j)
theorem od_mulS : OpD X Z (binaryOp .Mult) rMulS := opd_I op_mul fun _ _ _ => .int _
end
/-! ### the second family of draws -/
theorem pick5 {d : Int} (h0 : 0 ≤ d) (h1 : d < 5) : ∃ z : Int, (2147483563 ≤ z ∧ z ≤ 2147483647) ∧ atI [PyData.int 2147483647, PyData.int 2147483629, PyData.int 2147483587, PyData.int 2147483579, PyData.int 2147483563] d = some (.int z) := by
  rcases (show d = 0 ∨ d = 1 ∨ d = 2 ∨ d = 3 ∨ d = 4 by omega) with rfl | rfl | rfl | rfl | rfl
  all_goals exact ⟨_, ⟨by decide, by decide⟩, rfl⟩
/-- the pairs that headings come from -/
def hpairs : List (Int × Int) := [(0, 1), (1, 0), (1, 1), (1, -1), (1, 2), (1, -2), (2, 1), (2, -1), (1, 3), (3, -1), (2, 3), (3, 2), (3, 4), (4, 3), (3, -4), (4, -3)]
theorem hd_pair {p q : Int} {m : Nat} (h0 : 0 < p * p + q * q) (hd : (Rat.divInt (q * q - p * p) (p * p + q * q)).den ≤ m) : Hd m (Rat.divInt (q * q - p * p) (p * p + q * q), Rat.divInt (2 * p * q) (p * p + q * q)) := by
  have one : (Rat.divInt (q * q - p * p) (p * p + q * q)) * (Rat.divInt (q * q - p * p) (p * p + q * q)) + (Rat.divInt (2 * p * q) (p * p + q * q)) * (Rat.divInt (2 * p * q) (p * p + q * q)) = 1 := by
    have z := rz h0
    simp only [Rat.divInt_eq_div]
    have e : (((q * q - p * p : Int)) : Rat) * ((q * q - p * p : Int) : Rat) + ((2 * p * q : Int) : Rat) * ((2 * p * q : Int) : Rat) = ((p * p + q * q : Int) : Rat) * ((p * p + q * q : Int) : Rat) := by
      rw [← Rat.intCast_mul, ← Rat.intCast_mul, ← Rat.intCast_add, ← Rat.intCast_mul]
      congr 1
      grind
    generalize ((q * q - p * p : Int) : Rat) = A at *
    generalize ((2 * p * q : Int) : Rat) = B at *
    generalize ((p * p + q * q : Int) : Rat) = C at *
    grind
  exact ⟨one, hd, hd_den (u := (_, _)) one⟩
/-- each pair leads to a heading -/
theorem hpair_hd {i : Nat} {m : Int} (hm : m = 12 ∨ m = 16) (h : (i : Int) < m) : ∃ p q : Int, hpairs[i]? = some (p, q) ∧ 0 < p * p + q * q ∧ p * p + q * q < 26 ∧ (p.natAbs ≤ 4 ∧ q.natAbs ≤ 4) ∧ Hd (if m = 12 then 13 else 25) (Rat.divInt (q * q - p * p) (p * p + q * q), Rat.divInt (2 * p * q) (p * p + q * q)) := by
  have key : ∀ k : Nat, k < 16 → ∃ p q : Int, hpairs[k]? = some (p, q) ∧ 0 < p * p + q * q ∧ p * p + q * q < 26 ∧ (p.natAbs ≤ 4 ∧ q.natAbs ≤ 4) ∧ (Rat.divInt (q * q - p * p) (p * p + q * q)).den ≤ (if k < 12 then 13 else 25) := by
    intro k hk
    rcases (show k = 0 ∨ k = 1 ∨ k = 2 ∨ k = 3 ∨ k = 4 ∨ k = 5 ∨ k = 6 ∨ k = 7 ∨ k = 8 ∨ k = 9 ∨ k = 10 ∨ k = 11 ∨ k = 12 ∨ k = 13 ∨ k = 14 ∨ k = 15 by omega) with rfl | rfl | rfl | rfl | rfl | rfl | rfl | rfl | rfl | rfl | rfl | rfl | rfl | rfl | rfl | rfl
    all_goals exact ⟨_, _, rfl, by decide, by decide, ⟨by decide, by decide⟩, by decide⟩
  obtain ⟨p, q, e, h0, h1, h2, h3⟩ := key i (by omega)
  refine ⟨p, q, e, h0, h1, h2, hd_pair h0 (Nat.le_trans h3 ?_)⟩
  rcases hm with rfl | rfl
  · simp only [if_true]
    rw [if_pos (by omega)]
    omega
  · rw [if_neg (show ¬ ((16 : Int) = 12) by decide)]
    split <;> omega
def f_low2 : FP := fn2 PyData.int PyData.int (fun _ b => 0 < b ∧ b.natAbs < 2 ^ 9000) (fun a b => numD (Rat.divInt a b))
instance : FMono f_low2 := fm2
theorem ap_low2 {a b : Int} {Q : Res → Prop} : f_low2 [.int a, .int b] Q = ((0 < b ∧ b.natAbs < 2 ^ 9000) ∧ Q (.d (numD (Rat.divInt a b)))) := fn2_ap int_inj int_inj
/-- what stands in a way's step -/
inductive En where
  | hop (b f : Rat × Rat)
  | cut (ct : Ct) (r : Rat)
def stD : En → PyData
  | .hop b f => .tuple [.str "hop", .tuple [numD b.1, numD b.2], .tuple [numD f.1, numD f.2]]
  | .cut ct _ => cD ct
def faD : En → PyData
  | .hop _ _ => .none
  | .cut ct r => .tuple [numD r, plD (hd0 r ct), plD (hd1 r ct)]
def beg : En → Rat × Rat
  | .hop b _ => b
  | .cut (.line b _) _ => b
  | .cut (.arc b _ _ _) _ => b
def fin : En → Rat × Rat
  | .hop _ f => f
  | .cut (.line _ f) _ => f
  | .cut (.arc _ f _ _) _ => f
/-- sizes, and that headings are of length 1 -/
def EnOk : En → Prop
  | .hop b f => Bc 61 b ∧ Bc 61 f
  | .cut ct r => CtOk 61 r ct ∧ Bd 9 r ∧ ((hd0 r ct).1 * (hd0 r ct).1 + (hd0 r ct).2 * (hd0 r ct).2 = 1 ∧ Bd2 20 (hd0 r ct)) ∧ ((hd1 r ct).1 * (hd1 r ct).1 + (hd1 r ct).2 * (hd1 r ct).2 = 1 ∧ Bd2 20 (hd1 r ct))
/-- a heading known ahead, or None -/
def alD : Option (Rat × Rat) → PyData
  | none => .none
  | some u => plD u
def AlOk (o : Option (Rat × Rat)) : Prop := ∀ u, o = some u → u.1 * u.1 + u.2 * u.2 = 1 ∧ Bd2 20 u
def endAl : En → Option (Rat × Rat)
  | .hop _ _ => none
  | .cut ct r => some (hd1 r ct)
def f_headb : FB := bg1 1 PyData.int (fun m => m = 12 ∨ m = 16) plD (fun m u => Hd (if m = 12 then 13 else 25) u)
instance : BMono f_headb := bm1
theorem headb_at {xs : List PyData} {n : Nat} {m : Int} {Q : Res → List PyData → Prop} (hb : BagOk n xs) (hn : n + 1 ≤ mostDraws) (hm : m = 12 ∨ m = 16) (h : ∀ (u : Rat × Rat) xs', Hd (if m = 12 then 13 else 25) u → BagOk (n + 1) xs' → Q (.d (.tuple [numD u.1, numD u.2])) xs') : f_headb xs [.int m] Q :=
  ⟨n, m, hb, hn, rfl, hm, fun p xs' e b => h p xs' e b⟩
def f_along : FP := fn3 plD plD numD (fun p u s => Bd2 900 p ∧ Bd2 900 u ∧ Bd 900 s) (fun p u s => plD (p.1 + u.1 * s, p.2 + u.2 * s))
instance : FMono f_along := fm3
theorem ap_along {a b c d u : Rat} {Q : Res → Prop} : f_along [.tuple [numD a, numD b], .tuple [numD c, numD d], numD u] Q = (((Bd 900 a ∧ Bd 900 b) ∧ (Bd 900 c ∧ Bd 900 d) ∧ Bd 900 u) ∧ Q (.d (.tuple [numD (a + c * u), numD (b + d * u)]))) := fn3_ap (x := (a, b)) (y := (c, d)) pl_inj pl_inj num_inj
def f_turn3 : FP := fn3 plD plD PyData.int (fun p u w => Bd2 400 p ∧ Bd2 400 u ∧ (w = 1 ∨ w = -1)) (fun p u w => plD (p.1 * u.1 - p.2 * ((w : Rat) * u.2), p.1 * ((w : Rat) * u.2) + p.2 * u.1))
instance : FMono f_turn3 := fm3
theorem ap_turn3 {a b c d : Rat} {w : Int} {Q : Res → Prop} : f_turn3 [.tuple [numD a, numD b], .tuple [numD c, numD d], .int w] Q = (((Bd 400 a ∧ Bd 400 b) ∧ (Bd 400 c ∧ Bd 400 d) ∧ (w = 1 ∨ w = -1)) ∧ Q (.d (.tuple [numD (a * c - b * ((w : Rat) * d)), numD (a * ((w : Rat) * d) + b * c)]))) := fn3_ap (x := (a, b)) (y := (c, d)) pl_inj pl_inj int_inj
theorem num_side {w : Int} {u : Rat} (h : w = 1 ∨ w = -1) : PyData.tuple [.int (w * u.num), .int (u.den : Int)] = numD ((w : Rat) * u) := by
  rcases h with rfl | rfl
  · rw [Int.one_mul, show (((1 : Int) : Rat)) = 1 from rfl, Rat.one_mul]
    rfl
  · rw [show (-1 : Int) * u.num = 0 - u.num by omega, num_negd, show (((-1 : Int) : Rat)) = -1 from rfl]
    congr 1
    grind
theorem num_sideN {w : Int} {u : Rat} (h : w = 1 ∨ w = -1) : PyData.tuple [.int (0 - w * u.num), .int (u.den : Int)] = numD (-((w : Rat) * u)) := by
  rcases h with rfl | rfl
  · rw [Int.one_mul, num_negd, show (((1 : Int) : Rat)) = 1 from rfl, Rat.one_mul]
  · rw [show 0 - (-1 : Int) * u.num = u.num by omega, show (((-1 : Int) : Rat)) = -1 from rfl]
    show numD u = _
    congr 1
    grind
/-- a step drawn: from here on, with a heading known ahead or none; places to k -/
def f_stepb : FB := fun xs ds Q => ∃ n k p o wd, BagOk n xs ∧ n + 10 ≤ mostDraws ∧ ds = [plD p, alD o, .int wd] ∧ (Pl k p ∧ k + 80 ≤ 50000) ∧ AlOk o ∧ (1 ≤ wd ∧ wd ≤ 40) ∧
  ∀ (e : En) xs', EnOk e → beg e = p → Pl (k + 80) (fin e) → BagOk (n + 10) xs' → Q (.d (.tuple [stD e, faD e])) xs'
theorem bm_stepb : BMono f_stepb := ⟨fun xs ds Q Q' hq ⟨n, k, p, o, wd, h1, h2, h3, h4, h5, h6, h⟩ => ⟨n, k, p, o, wd, h1, h2, h3, h4, h5, h6, fun e xs' a b c d => hq _ _ (h e xs' a b c d)⟩⟩
instance : BMono f_stepb := bm_stepb
theorem bl_stepb : ∀ xs ds Q, f_stepb xs ds Q → ds.length + 1 = 4 := fun xs ds Q ⟨n, k, p, o, wd, h1, h2, h3, _⟩ => by rw [h3]; rfl
/-- an entry of a way -/
structure Et where
  e : En
  pace : Int
  num : Int
def etD (t : Et) : PyData := .tuple [stD t.e, .int t.pace, .int t.num]
def EtOk (t : Et) : Prop := EnOk t.e ∧ (0 ≤ t.pace ∧ t.pace ≤ 9) ∧ (0 ≤ t.num ∧ t.num < 1000)
/-- each begins where the one ahead ends -/
def Linked : List Et → Prop
  | [] => True
  | [_] => True
  | a :: b :: r => fin a.e = beg b.e ∧ Linked (b :: r)
def f_wayb : FB := fun xs ds Q => ∃ n most wd, BagOk n xs ∧ n + 5000 ≤ mostDraws ∧ ds = [.int most, .int wd] ∧ (0 ≤ most ∧ most ≤ 300) ∧ (1 ≤ wd ∧ wd ≤ 40) ∧
  ∀ (ts : List Et) xs', (∀ t ∈ ts, EtOk t) → Linked ts → (ts.length : Int) ≤ most → BagOk (n + 5000) xs' → Q (.d (.tuple [.list (ts.map etD), .list (ts.map fun t => faD t.e)])) xs'
theorem bm_wayb : BMono f_wayb := ⟨fun xs ds Q Q' hq ⟨n, most, wd, h1, h2, h3, h4, h5, h⟩ => ⟨n, most, wd, h1, h2, h3, h4, h5, fun ts xs' a b c d => hq _ _ (h ts xs' a b c d)⟩⟩
instance : BMono f_wayb := bm_wayb
theorem bl_wayb : ∀ xs ds Q, f_wayb xs ds Q → ds.length + 1 = 3 := fun xs ds Q ⟨n, most, wd, h1, h2, h3, _⟩ => by rw [h3]; rfl
end DL
namespace DM
open DL
/-! headings turned, arcs drawn -/
theorem unit_num {x y : Rat} (h : x * x + y * y = 1) : x.num.natAbs ≤ x.den := by
  obtain ⟨h1, h2⟩ := unit_le h
  have e : (x.num : Rat) = x * ((x.den : Int) : Rat) := by
    have z : ((x.den : Int) : Rat) ≠ 0 := DL.rz (by have := x.den_pos; omega)
    have e : x = (x.num : Rat) / ((x.den : Int) : Rat) := by rw [← Rat.divInt_eq_div]; exact (Rat.num_divInt_den x).symm
    generalize (x.num : Rat) = a at *
    generalize ((x.den : Int) : Rat) = b at *
    rw [e]
    grind
  have pos : (0 : Rat) < ((x.den : Int) : Rat) := by
    rw [show (0 : Rat) = ((0 : Int) : Rat) from rfl]
    exact Rat.intCast_lt_intCast.mpr (by have := x.den_pos; omega)
  have l1 : (x.num : Rat) ≤ ((x.den : Int) : Rat) := by
    have : 0 ≤ (1 - x) * ((x.den : Int) : Rat) := Rat.mul_nonneg (by grind) (by grind)
    grind
  have l2 : ((-(x.den : Int) : Int) : Rat) ≤ (x.num : Rat) := by
    have : 0 ≤ (1 + x) * ((x.den : Int) : Rat) := Rat.mul_nonneg (by grind) (by grind)
    rw [Rat.intCast_neg]
    grind
  have m1 := Rat.intCast_le_intCast.mp l1
  have m2 := Rat.intCast_le_intCast.mp l2
  omega
theorem Hd.flip {m : Nat} {u : Rat × Rat} (h : Hd m u) : u.2 * u.2 + u.1 * u.1 = 1 := by have := h.one; grind
theorem Hd.bc {m n : Nat} {u : Rat × Rat} (h : Hd m u) (hm : m < 2 ^ n) : Bc n u := by
  have h1 := unit_num h.one
  have h2 := unit_num h.flip
  have := h.d1
  have := h.d2
  have := u.1.den_pos
  refine ⟨u.1.num, u.2.num, u.1.den, by omega, (Rat.num_divInt_den _).symm, ?_, by omega, by omega, by omega⟩
  rw [← h.d2]
  exact (Rat.num_divInt_den _).symm
theorem Hd.mono {m n : Nat} {u : Rat × Rat} (h : Hd m u) (e : m ≤ n) : Hd n u := ⟨h.one, Nat.le_trans h.d1 e, h.d2⟩
theorem side_sq {w : Int} (h : w = 1 ∨ w = -1) : (w : Rat) * (w : Rat) = 1 := by
  rcases h with rfl | rfl
  · rw [show (((1 : Int) : Rat)) = 1 from rfl]
    grind
  · rw [show (((-1 : Int) : Rat)) = -1 from rfl]
    grind
theorem side_den {w : Int} {x : Rat} (h : w = 1 ∨ w = -1) : ((w : Rat) * x).den = x.den := by
  rcases h with rfl | rfl
  · rw [show (((1 : Int) : Rat)) = 1 from rfl, Rat.one_mul]
  · rw [show (((-1 : Int) : Rat)) = -1 from rfl, show (-1 : Rat) * x = -x by grind, Rat.neg_den]
theorem Hd.side {m : Nat} {u : Rat × Rat} {w : Int} (h : Hd m u) (hw : w = 1 ∨ w = -1) : Hd m ((w : Rat) * u.1, (w : Rat) * u.2) := by
  have e := side_sq hw
  have o := h.one
  refine ⟨?_, ?_, ?_⟩
  · show (w : Rat) * u.1 * ((w : Rat) * u.1) + (w : Rat) * u.2 * ((w : Rat) * u.2) = 1
    generalize (w : Rat) = W at *
    grind
  · show ((w : Rat) * u.1).den ≤ m
    rw [side_den hw]
    exact h.d1
  · show ((w : Rat) * u.2).den = ((w : Rat) * u.1).den
    rw [side_den hw, side_den hw]
    exact h.d2
theorem Hd.spoke {m : Nat} {u : Rat × Rat} {w : Int} (h : Hd m u) (hw : w = 1 ∨ w = -1) : Hd m ((w : Rat) * u.2, -((w : Rat) * u.1)) := by
  have e := side_sq hw
  have o := h.one
  refine ⟨?_, ?_, ?_⟩
  · show (w : Rat) * u.2 * ((w : Rat) * u.2) + -((w : Rat) * u.1) * -((w : Rat) * u.1) = 1
    generalize (w : Rat) = W at *
    grind
  · show ((w : Rat) * u.2).den ≤ m
    rw [side_den hw, h.d2]
    exact h.d1
  · show (-((w : Rat) * u.1)).den = ((w : Rat) * u.2).den
    rw [Rat.neg_den, side_den hw, side_den hw, h.d2]
theorem den13N : ∀ d : Fin 14, ∀ a : Fin 14, ∀ b : Fin 14, a.val * a.val + b.val * b.val = d.val * d.val → 0 < d.val → Nat.gcd a.val d.val = 1 → d.val = 1 ∨ d.val = 5 ∨ d.val = 13 := by decide +kernel
theorem Hd.den13 {u : Rat × Rat} (h : Hd 13 u) : u.1.den = 1 ∨ u.1.den = 5 ∨ u.1.den = 13 := by
  have h1 := unit_num h.one
  have h2 := unit_num h.flip
  have h3 := h.d1
  have h4 := h.d2
  have h5 := u.1.den_pos
  have o := h.one
  have e1 : u.1 = (u.1.num : Rat) / ((u.1.den : Int) : Rat) := by rw [← Rat.divInt_eq_div]; exact (Rat.num_divInt_den _).symm
  have e2 : u.2 = (u.2.num : Rat) / ((u.1.den : Int) : Rat) := by rw [← Rat.divInt_eq_div, ← h4]; exact (Rat.num_divInt_den _).symm
  have z : ((u.1.den : Int) : Rat) ≠ 0 := DL.rz (by omega)
  have sq : u.1.num * u.1.num + u.2.num * u.2.num = (u.1.den : Int) * (u.1.den : Int) := by
    have : ((u.1.num * u.1.num + u.2.num * u.2.num : Int) : Rat) = (((u.1.den : Int) * (u.1.den : Int) : Int) : Rat) := by
      rw [Rat.intCast_add, Rat.intCast_mul, Rat.intCast_mul, Rat.intCast_mul]
      generalize (u.1.num : Rat) = A at *
      generalize (u.2.num : Rat) = B at *
      generalize ((u.1.den : Int) : Rat) = C at *
      rw [e1, e2] at o
      grind
    exact Rat.intCast_inj.mp this
  have sq2 : u.1.num.natAbs * u.1.num.natAbs + u.2.num.natAbs * u.2.num.natAbs = u.1.den * u.1.den := by
    have a1 : ((u.1.num.natAbs * u.1.num.natAbs : Nat) : Int) = u.1.num * u.1.num := Int.natAbs_mul_self ..
    have a2 : ((u.2.num.natAbs * u.2.num.natAbs : Nat) : Int) = u.2.num * u.2.num := Int.natAbs_mul_self ..
    have : ((u.1.num.natAbs * u.1.num.natAbs + u.2.num.natAbs * u.2.num.natAbs : Nat) : Int) = ((u.1.den * u.1.den : Nat) : Int) := by
      rw [Int.natCast_add, a1, a2, sq, Int.natCast_mul]
    exact Int.ofNat_inj.mp this
  have g := u.1.reduced
  exact den13N ⟨u.1.den, by omega⟩ ⟨u.1.num.natAbs, by omega⟩ ⟨u.2.num.natAbs, by omega⟩ sq2 h5 g
/-- one heading turned by another -/
def trn (u v : Rat × Rat) (w : Int) : Rat × Rat := (u.1 * v.1 - u.2 * ((w : Rat) * v.2), u.1 * ((w : Rat) * v.2) + u.2 * v.1)
theorem trn_one {u v : Rat × Rat} {w : Int} (hu : u.1 * u.1 + u.2 * u.2 = 1) (hv : v.1 * v.1 + v.2 * v.2 = 1) (hw : w = 1 ∨ w = -1) : (trn u v w).1 * (trn u v w).1 + (trn u v w).2 * (trn u v w).2 = 1 := by
  have e := side_sq hw
  simp only [trn]
  generalize (w : Rat) = W at *
  grind
theorem trn_bc {u v : Rat × Rat} {w : Int} (hu : Hd 13 u) (hv : Hd 13 v) (hw : w = 1 ∨ w = -1) : Bc 9 (trn u v w) := by
  have b1 := hu.bc (n := 4) (by decide)
  have b2 := hv.bc (n := 4) (by decide)
  have b3 := b2.neg2' (e := (w : Rat)) (by rcases hw with rfl | rfl; exact .inl rfl; exact .inr rfl)
  exact b1.turn b3
theorem trn_gr {u v : Rat × Rat} {w a b : Int} (hu : Hd 13 u) (hv : Hd 13 v) (hw : w = 1 ∨ w = -1) (hb : 0 < b) (hb4 : b ∣ 12) : Gr ((trn u v w).1 * Rat.divInt a b) ∧ Gr ((trn u v w).2 * Rat.divInt a b) := by
  have d1 := hu.den13
  have d2 := hv.den13
  have p1 := u.1.den_pos
  have p2 := v.1.den_pos
  have dv : (u.1.den : Int) * (v.1.den : Int) * b ∣ gD := by
    have k : (u.1.den : Int) * (v.1.den : Int) ∣ 4225 := by
      rcases d1 with e | e | e <;> rcases d2 with e' | e' | e' <;> rw [e, e'] <;> decide
    exact Int.dvd_trans (Int.mul_dvd_mul k hb4) (by decide)
  have z1 : ((u.1.den : Int) : Rat) ≠ 0 := DL.rz (by omega)
  have z2 : ((v.1.den : Int) : Rat) ≠ 0 := DL.rz (by omega)
  have z3 : ((b : Int) : Rat) ≠ 0 := DL.rz hb
  have e1 : u.1 = (u.1.num : Rat) / ((u.1.den : Int) : Rat) := by rw [← Rat.divInt_eq_div]; exact (Rat.num_divInt_den _).symm
  have e2 : u.2 = (u.2.num : Rat) / ((u.1.den : Int) : Rat) := by rw [← Rat.divInt_eq_div, ← hu.d2]; exact (Rat.num_divInt_den _).symm
  have e3 : v.1 = (v.1.num : Rat) / ((v.1.den : Int) : Rat) := by rw [← Rat.divInt_eq_div]; exact (Rat.num_divInt_den _).symm
  have e4 : v.2 = (v.2.num : Rat) / ((v.1.den : Int) : Rat) := by rw [← Rat.divInt_eq_div, ← hv.d2]; exact (Rat.num_divInt_den _).symm
  have nz : (u.1.den : Int) * (v.1.den : Int) * b ≠ 0 := Int.mul_ne_zero (Int.mul_ne_zero (by omega) (by omega)) (by omega)
  constructor
  · have : (trn u v w).1 * Rat.divInt a b = Rat.divInt ((u.1.num * v.1.num - u.2.num * (w * v.2.num)) * a) ((u.1.den : Int) * (v.1.den : Int) * b) := by
      simp only [trn, Rat.divInt_eq_div, Rat.intCast_mul, Rat.intCast_sub]
      generalize (u.1.num : Rat) = A at *
      generalize (u.2.num : Rat) = B at *
      generalize ((u.1.den : Int) : Rat) = C at *
      generalize (v.1.num : Rat) = A' at *
      generalize (v.2.num : Rat) = B' at *
      generalize ((v.1.den : Int) : Rat) = C' at *
      rw [e1, e2, e3, e4]
      grind
    rw [this]
    exact gr_frac nz dv
  · have : (trn u v w).2 * Rat.divInt a b = Rat.divInt ((u.1.num * (w * v.2.num) + u.2.num * v.1.num) * a) ((u.1.den : Int) * (v.1.den : Int) * b) := by
      simp only [trn, Rat.divInt_eq_div, Rat.intCast_mul, Rat.intCast_add]
      generalize (u.1.num : Rat) = A at *
      generalize (u.2.num : Rat) = B at *
      generalize ((u.1.den : Int) : Rat) = C at *
      generalize (v.1.num : Rat) = A' at *
      generalize (v.2.num : Rat) = B' at *
      generalize ((v.1.den : Int) : Rat) = C' at *
      rw [e1, e2, e3, e4]
      grind
    rw [this]
    exact gr_frac nz dv
theorem size_40 {a b : Int} (hb : 0 < b) (ha : 0 ≤ a) (hab : a ≤ 40 * b) : 0 ≤ Rat.divInt a b ∧ Rat.divInt a b ≤ 40 := by
  refine ⟨(dI_le hb).mpr ha, ?_⟩
  have e2 : Rat.divInt (-(a - 40 * b)) b = 40 - Rat.divInt a b := by
    have z := DL.rz hb
    simp only [Rat.divInt_eq_div, Rat.intCast_sub, Rat.intCast_mul, Rat.intCast_neg]
    rw [show (((40 : Int)) : Rat) = 40 from rfl]
    grind
  have := dI_le (a := -(a - 40 * b)) hb
  rw [e2] at this
  have := this.mpr (by omega)
  grind
theorem trn_pl {u v : Rat × Rat} {w a b : Int} (hu : Hd 13 u) (hv : Hd 13 v) (hw : w = 1 ∨ w = -1) (hb : 0 < b) (hb4 : b ∣ 12) (ha : 0 ≤ a) (hab : a ≤ 40 * b) : Pl 40 ((trn u v w).1 * Rat.divInt a b, (trn u v w).2 * Rat.divInt a b) := by
  have g := trn_gr (a := a) hu hv hw hb hb4
  have o := trn_one hu.one hv.one hw
  obtain ⟨s0, s1⟩ := size_40 hb ha hab
  have b1 := unit_le o
  have b2 := unit_le (x := (trn u v w).2) (y := (trn u v w).1) (by grind)
  generalize (trn u v w).1 = X at *
  generalize (trn u v w).2 = Y at *
  generalize Rat.divInt a b = S at *
  have e40 : ((40 : Nat) : Rat) = 40 := rfl
  have aux : ∀ x : Rat, -1 ≤ x ∧ x ≤ 1 → -40 ≤ x * S ∧ x * S ≤ 40 := by
    intro x ⟨h1, h2⟩
    have q1 := Rat.mul_nonneg (show 0 ≤ 1 - x by grind) s0
    have q2 := Rat.mul_nonneg (show 0 ≤ 1 + x by grind) s0
    exact ⟨by grind, by grind⟩
  refine ⟨g, ?_, ?_⟩ <;> rw [e40]
  · exact aux _ b1
  · exact aux _ b2
theorem Gr.neg {u : Rat} (h : Gr u) : Gr (-u) := by
  obtain ⟨a, rfl⟩ := h
  exact ⟨-a, by rw [DL.dI_neg]⟩
theorem Pl.neg {k : Nat} {p : Rat × Rat} (h : Pl k p) : Pl k (-p.1, -p.2) := by
  obtain ⟨⟨a1, a2⟩, ⟨b1, b2⟩, c1, c2⟩ := h
  exact ⟨⟨a1.neg, a2.neg⟩, ⟨by simp only; grind, by simp only; grind⟩, ⟨by simp only; grind, by simp only; grind⟩⟩
/-- a line drawn -/
theorem en_line {k : Nat} {p u : Rat × Rat} {a b : Int} (hp : Pl k p) (hk : k + 80 ≤ 50000) (hu : Hd 25 u) (hb : 0 < b) (hb4 : b ∣ 12) (hb5 : b < 32) (ha : 0 < a) (hab : a ≤ 40 * b) (ha5 : a < 256) :
    EnOk (.cut (.line p (p.1 + u.1 * Rat.divInt a b, p.2 + u.2 * Rat.divInt a b)) (Rat.divInt a b)) ∧ hd0 (Rat.divInt a b) (.line p (p.1 + u.1 * Rat.divInt a b, p.2 + u.2 * Rat.divInt a b)) = u ∧ hd1 (Rat.divInt a b) (.line p (p.1 + u.1 * Rat.divInt a b, p.2 + u.2 * Rat.divInt a b)) = u ∧ Pl (k + 80) (p.1 + u.1 * Rat.divInt a b, p.2 + u.2 * Rat.divInt a b) := by
  have q := hp.add (hu.pl (Nat.le_refl _) hb hb4 (by omega) hab)
  have r0 : 0 < Rat.divInt a b := by
    have := (dI_le (a := a) hb).mpr (by omega)
    have ne : Rat.divInt a b ≠ 0 := by
      rw [Rat.divInt_eq_div]
      have z := DL.rz hb
      have z' := DL.rz ha
      generalize (a : Rat) = A at *
      generalize (b : Rat) = B at *
      grind
    grind
  have hr : Bd 9 (Rat.divInt a b) := bd_divInt (n := 9) (show _ < 512 by omega) (show _ < 512 by omega) (by omega)
  have hub := hu.bc (n := 5) (by decide)
  have hu2 : Bd2 20 u := (hub.mono (by decide)).bd
  have o := hu.one
  generalize Rat.divInt a b = r at *
  have h0 : ((p.1 + u.1 * r - p.1) * (1 / r), (p.2 + u.2 * r - p.2) * (1 / r)) = u := by
    obtain ⟨u1, u2⟩ := u
    simp only [Prod.mk.injEq]
    exact ⟨by grind, by grind⟩
  refine ⟨⟨⟨⟨hp.bc (by omega), q.bc (by omega)⟩, r0, ?_⟩, hr, ?_, ?_⟩, h0, h0, q.mono (by omega)⟩
  · simp only [dt, sb2]
    grind
  · rw [show hd0 r (.line p (p.1 + u.1 * r, p.2 + u.2 * r)) = u from h0]
    exact ⟨o, hu2⟩
  · rw [show hd1 r (.line p (p.1 + u.1 * r, p.2 + u.2 * r)) = u from h0]
    exact ⟨o, hu2⟩
/-- an arc drawn -/
theorem en_arc {k : Nat} {p u v : Rat × Rat} {w a b : Int} (hp : Pl k p) (hk : k + 80 ≤ 50000) (hu : Hd 13 u) (hv : Hd 13 v) (hw : w = 1 ∨ w = -1) (hb : 0 < b) (hb4 : b ∣ 12) (hb5 : b < 32) (ha : 0 < a) (hab : a ≤ 40 * b) (ha5 : a < 256)
    {o f : Rat × Rat} (ho : o = (p.1 + (w : Rat) * u.2 * -Rat.divInt a b, p.2 + -((w : Rat) * u.1) * -Rat.divInt a b))
    (hf : f = (o.1 + (trn ((w : Rat) * u.2, -((w : Rat) * u.1)) v w).1 * Rat.divInt a b, o.2 + (trn ((w : Rat) * u.2, -((w : Rat) * u.1)) v w).2 * Rat.divInt a b)) :
    EnOk (.cut (.arc p f o w) (Rat.divInt a b)) ∧ hd0 (Rat.divInt a b) (.arc p f o w) = u ∧ hd1 (Rat.divInt a b) (.arc p f o w) = trn u v w ∧ Pl (k + 40) o ∧ Pl (k + 80) f := by
  have hs := hu.spoke hw
  have po : Pl (k + 40) o := by
    have q := (hs.pl (by decide) hb hb4 (by omega) hab).neg
    have := hp.add q
    rw [ho]
    have e : ∀ x y : Rat, x * -y = -(x * y) := fun x y => by grind
    rw [e, e]
    exact this
  have pf : Pl (k + 80) f := by
    have := po.add (trn_pl hs hv hw hb hb4 (by omega) hab)
    rw [hf]
    exact this
  have r0 : 0 < Rat.divInt a b := by
    have := (dI_le (a := a) hb).mpr (by omega)
    have ne : Rat.divInt a b ≠ 0 := by
      rw [Rat.divInt_eq_div]
      have z := DL.rz hb
      have z' := DL.rz ha
      generalize (a : Rat) = A at *
      generalize (b : Rat) = B at *
      grind
    grind
  have hr : Bd 9 (Rat.divInt a b) := bd_divInt (n := 9) (show _ < 512 by omega) (show _ < 512 by omega) (by omega)
  have hu2 : Bd2 20 u := ((hu.bc (n := 4) (by decide)).mono (by decide)).bd
  have ht2 : Bd2 20 (trn u v w) := ((trn_bc hu hv hw).mono (by decide)).bd
  have o1 := hu.one
  have o2 := hv.one
  have ot := trn_one hu.one hv.one hw
  have ww := side_sq hw
  have bp := hp.bc (by omega)
  have bo := po.bc (by omega)
  have bf := pf.bc (by omega)
  generalize hr' : Rat.divInt a b = r at *
  have h0 : hd0 r (.arc p f o w) = u := by
    obtain ⟨u1, u2⟩ := u
    simp only [hd0, ho, Prod.mk.injEq]
    clear ot hf pf po bf bo ht2 hs hu hv
    generalize (w : Rat) = W at *
    exact ⟨by grind, by grind⟩
  have h1 : hd1 r (.arc p f o w) = trn u v w := by
    obtain ⟨u1, u2⟩ := u
    obtain ⟨v1, v2⟩ := v
    simp only [hd1, hf, trn, Prod.mk.injEq]
    clear ot hf pf po bf bo ht2 hs hu hv h0 ho
    generalize (w : Rat) = W at *
    obtain ⟨o1', o2'⟩ := o
    exact ⟨by grind, by grind⟩
  refine ⟨⟨⟨⟨bp, bf, bo⟩, hw, r0, ?_, ?_⟩, hr, ?_, ?_⟩, h0, h1, po, pf⟩
  · simp only [dt, sb2, ho]
    clear ot hf pf po bf bo ht2 hs hu hv h0 h1
    generalize (w : Rat) = W at *
    grind
  · have os := trn_one hs.one hv.one hw
    simp only [dt, sb2, hf]
    generalize (trn ((w : Rat) * u.2, -((w : Rat) * u.1)) v w).1 = X at *
    generalize (trn ((w : Rat) * u.2, -((w : Rat) * u.1)) v w).2 = Y at *
    clear ot hf pf po bf bo ht2 hs hu hv h0 h1 ho
    grind
  · rw [h0]
    exact ⟨o1, hu2⟩
  · rw [h1]
    exact ⟨ot, ht2⟩
theorem dvd12 {b : Int} (h0 : 0 < b) (h : b ≤ 4) : b ∣ 12 := by
  rcases (show b = 1 ∨ b = 2 ∨ b = 3 ∨ b = 4 by omega) with rfl | rfl | rfl | rfl <;> decide
theorem pl_start {a b c : Int} (ha : -20 ≤ a ∧ a ≤ 20) (hb : 1 ≤ b ∧ b ≤ 3) (hc : -20 ≤ c ∧ c ≤ 20) : Pl 20 (Rat.divInt a b, (c : Rat)) := by
  have z := DL.rz (show 0 < b by omega)
  have ec : (c : Rat) = Rat.divInt c 1 := by rw [Rat.divInt_eq_div, show (((1 : Int) : Rat)) = 1 from rfl]; grind
  have e20 : ((20 : Nat) : Rat) = ((20 : Int) : Rat) := rfl
  have lo : -((20 : Int) : Rat) ≤ Rat.divInt a b := by
    have h := (dI_le (a := a + 20 * b) (m := b) (by omega)).mpr (by omega)
    have e : Rat.divInt (a + 20 * b) b = Rat.divInt a b + ((20 : Int) : Rat) := by
      simp only [Rat.divInt_eq_div, Rat.intCast_add, Rat.intCast_mul]
      grind
    rw [e] at h
    grind
  have hi : Rat.divInt a b ≤ ((20 : Int) : Rat) := by
    have h := (dI_le (a := 20 * b - a) (m := b) (by omega)).mpr (by omega)
    have e : Rat.divInt (20 * b - a) b = ((20 : Int) : Rat) - Rat.divInt a b := by
      simp only [Rat.divInt_eq_div, Rat.intCast_sub, Rat.intCast_mul]
      grind
    rw [e] at h
    grind
  refine ⟨⟨gr_frac (by omega) ?_, ?_⟩, ?_, ?_⟩
  · exact Int.dvd_trans (dvd12 (by omega) (by omega)) (by decide)
  · simp only
    rw [ec]
    exact gr_frac (by decide) (by decide)
  · rw [e20]
    exact ⟨lo, hi⟩
  · rw [e20]
    refine ⟨?_, Rat.intCast_le_intCast.mpr hc.2⟩
    rw [← Rat.intCast_neg]
    exact Rat.intCast_le_intCast.mpr hc.1
theorem linked_snoc {ts : List Et} {t : Et} (h : Linked ts) (he : ∀ s, ts.getLast? = some s → fin s.e = beg t.e) : Linked (ts ++ [t]) := by
  induction ts with
  | nil => trivial
  | cons a r ih =>
    cases r with
    | nil => exact ⟨he a rfl, trivial⟩
    | cons b r' => exact ⟨h.1, ih h.2 fun s hs => he s (by rw [List.getLast?_cons_cons]; exact hs)⟩
theorem AlOk_end {e : En} (h : EnOk e) : AlOk (endAl e) := by
  intro u hu
  cases e with
  | hop b f => exact nomatch hu
  | cut ct r =>
    cases hu
    exact h.2.2.2
theorem st_at2 {e : En} : ∃ xs, stD e = .tuple xs ∧ L2.atI xs 2 = some (plD (fin e)) := by
  rcases e with ⟨b, f⟩ | ⟨⟨b, f⟩ | ⟨b, f, o, w⟩, r⟩
  · exact ⟨_, rfl, atI_2⟩
  · exact ⟨_, rfl, atI_2⟩
  · exact ⟨_, rfl, atI_2⟩
end DM
namespace DL
open PySem PySem.Spec L2 DM
theorem zip_map {α : Type} {ts : List α} {a b : α → PyData} : zipD (ts.map a) (ts.map b) = ts.map fun t => .tuple [a t, b t] := by
  induction ts with
  | nil => rfl
  | cons t r ih =>
    show PyData.tuple [a t, b t] :: zipD (r.map a) (r.map b) = _
    rw [ih]
    rfl
/-- a comprehension over things ts, kept by p, each told as F -/
theorem lc_filt {α : Type} {g : DG} {tt : DT} {te : DE} {vs : List Nat} [GMono g] [TMono tt] [EMono te] {Q : List PyData → DSt → Prop} {ts : List α} {mk : α → PyData} {δ0 : DSt} (p : α → Bool) (F : α → PyData) (hn : ts.length ≤ sizeLine)
    (hs : ∀ t ∈ ts, ∀ (R : PyData → DSt → Prop) (R' : DSt → Prop), (p t = true → ∀ δ4, dwipe δ4 vs = δ0 → R (F t) δ4) → (p t = false → ∀ δ3, dwipe δ3 vs = δ0 → R' δ3) → g (mk t) δ0 fun δ2 => tt δ2 fun b δ3 => match b with
      | true => te δ3 R
      | false => R' δ3) (hd : Q ((ts.filter p).map F) δ0) : dLcL g tt te vs Q (ts.map mk) [] δ0 := by
  refine lc_at (fun j acc δ => δ = δ0 ∧ acc = ((ts.take j).filter p).map F) _ ⟨rfl, by rw [List.take_zero]; rfl⟩ ?_ ?_
  · rintro W hW j d acc δ hj ⟨rfl, rfl⟩
    rw [List.getElem?_map] at hj
    cases e : ts[j]? with
    | none => rw [e] at hj; exact nomatch hj
    | some t =>
      rw [e] at hj
      cases hj
      have hlt := get_lt e
      have et : ts.take (j + 1) = ts.take j ++ [t] := by rw [List.take_add_one, e]; rfl
      have hlen : (((ts.take j).filter p).map F).length < sizeLine := by
        rw [List.length_map]
        have := List.length_filter_le p (ts.take j)
        rw [List.length_take] at this
        omega
      refine GMono.m (t := g) _ _ _ _ (fun δ2 z => TMono.m (t := tt) _ _ _ (fun b δ3 z => ?_) z) (hs t (List.mem_of_getElem? e) (fun y δ4 => (((ts.take j).filter p).map F).length < sizeLine ∧ W (j + 1) (((ts.take j).filter p).map F ++ [y]) (dwipe δ4 vs)) (fun δ3 => W (j + 1) (((ts.take j).filter p).map F) (dwipe δ3 vs)) (fun hp δ4 e4 => ⟨hlen, hW _ _ _ ⟨e4, ?_⟩⟩) (fun hp δ3 e3 => hW _ _ _ ⟨e3, ?_⟩))
      · cases b with
        | true => exact EMono.m (t := te) _ _ _ (fun y δ4 z => z) z
        | false => exact z
      · rw [et, List.filter_append, List.filter_cons_of_pos hp, List.map_append]
        rfl
      · rw [et, List.filter_append, List.filter_cons_of_neg (by rw [hp]; decide), List.map_append]
        rw [show List.filter p [] = [] from rfl, List.map_nil, List.append_nil]
  · rintro acc δ ⟨rfl, rfl⟩
    rw [List.length_map, List.take_length]
    exact hd
theorem lc_map {α : Type} {g : DG} {tt : DT} {te : DE} {vs : List Nat} [GMono g] [TMono tt] [EMono te] {Q : List PyData → DSt → Prop} {ts : List α} {mk : α → PyData} {δ0 : DSt} (F : α → PyData) (hn : ts.length ≤ sizeLine)
    (hs : ∀ t ∈ ts, ∀ (R : PyData → DSt → Prop), (∀ δ4, dwipe δ4 vs = δ0 → R (F t) δ4) → g (mk t) δ0 fun δ2 => tt δ2 fun b δ3 => match b with
      | true => te δ3 R
      | false => False) (hd : Q (ts.map F) δ0) : dLcL g tt te vs Q (ts.map mk) [] δ0 := by
  refine lc_filt (fun _ => true) F hn (fun t ht R R' h1 _ => ?_) (by rw [List.filter_eq_self.mpr (fun _ _ => rfl)]; exact hd)
  refine GMono.m (t := g) _ _ _ _ (fun δ2 z => TMono.m (t := tt) _ _ _ (fun b δ3 z => ?_) z) (hs t ht R (h1 rfl))
  cases b with
  | true => exact z
  | false => exact z.elim
end DL

/-! zips of three and four lists (printed by mkzip.py) -/
namespace DZ
open PySem Sem
structure ZA3 (z TI TO i1 i2 i3 l1 l2 l3 : Addr) : Prop where
  TI_z : TI ≠ z
  TO_z : TO ≠ z
  i1_z : i1 ≠ z
  i2_z : i2 ≠ z
  i3_z : i3 ≠ z
  TI_TO : TI ≠ TO
  TI_i1 : TI ≠ i1
  TI_i2 : TI ≠ i2
  TI_i3 : TI ≠ i3
  TO_i1 : TO ≠ i1
  TO_i2 : TO ≠ i2
  TO_i3 : TO ≠ i3
  i1_i2 : i1 ≠ i2
  i1_i3 : i1 ≠ i3
  i2_i3 : i2 ≠ i3
  l1_z : l1 ≠ z
  l2_z : l2 ≠ z
  l3_z : l3 ≠ z
  l1_TO : l1 ≠ TO
  l2_TO : l2 ≠ TO
  l3_TO : l3 ≠ TO
  l1_i1 : l1 ≠ i1
  l1_i2 : l1 ≠ i2
  l1_i3 : l1 ≠ i3
  l2_i1 : l2 ≠ i1
  l2_i2 : l2 ≠ i2
  l2_i3 : l2 ≠ i3
  l3_i1 : l3 ≠ i1
  l3_i2 : l3 ≠ i2
  l3_i3 : l3 ≠ i3
section
variable {prog : Program} {w : World} {A : Around} {E : Value → Shared → Prop} {s : Shared}
theorem zip3_next_item {z TI TO i1 i2 i3 l1 l2 l3 : Addr} {k : Nat} {xs1 xs2 xs3 : Array Value} {a1 a2 a3 : Value} {x1 x2 x3 : Value} {Q : Value → Shared → Prop} (D : ZA3 z TI TO i1 i2 i3 l1 l2 l3)
    (hz : IsZip s.heap z TI TO .none) (hTI : s.heap.get? TI = some { cls := .type "tuple", data := .seq #[.ref i1, .ref i2, .ref i3] }) (hTO : s.heap.get? TO = some { cls := .type "tuple", data := .seq #[a1, a2, a3] })
    (h1 : s.heap.IsListIter i1 l1 k) (h2 : s.heap.IsListIter i2 l2 k) (h3 : s.heap.IsListIter i3 l3 k) (hl1 : s.heap.IsList l1 xs1) (hl2 : s.heap.IsList l2 xs2) (hl3 : s.heap.IsList l3 xs3) (hx1 : xs1[k]? = some x1) (hx2 : xs2[k]? = some x2) (hx3 : xs3[k]? = some x3)
    (hQ : ∀ h', IsZip h' z TI TO (rawInt s.heap.objs.size) → h'.get? TO = some { cls := .type "tuple", data := .seq #[x1, x2, x3] } → h'.IsListIter i1 l1 (k + 1) → h'.IsListIter i2 l2 (k + 1) → h'.IsListIter i3 l3 (k + 1) → h'.get? s.heap.objs.size = some { cls := .type "tuple", data := .seq #[x1, x2, x3] } → h'.objs.size = s.heap.objs.size + 1 →
      (∀ c o, c ≠ z → c ≠ TO → c ≠ i1 → c ≠ i2 → c ≠ i3 → s.heap.get? c = some o → h'.get? c = some o) → Q (.ref s.heap.objs.size) { s with heap := h' }) :
    wpAny (model prog w) A (Builtin.«zip.__next__» ⟨[.ref z], []⟩) (fun fin s' => ∃ v, fin = .done (.ret v) ∧ Q v s') E s := by
  show wpAny _ _ (field (.ref z) 2 >>= _) _ _ _
  refine wpAny_bind (wpAny_field hz rfl (x := .bool false) rfl ?_)
  show wpAny _ _ (field (.ref z) 3 >>= _) _ _ _
  refine wpAny_bind (wpAny_field hz rfl (x := .ref TI) rfl ?_)
  refine wpAny_bind (wpAny_seqItems hTI rfl ?_)
  show wpAny _ _ (Builtin.SmallTypes.ownedTupleIsFree (.ref z) >>= _) _ _ _
  refine wpAny_bind ?_
  unfold Builtin.SmallTypes.ownedTupleIsFree
  refine wpAny_bind (wpAny_field hz rfl (x := .none) rfl (wpAny_pure ?_))
  simp only [if_true]
  refine wpAny_bind (wpAny_rule ?_)
  refine wpAny_bind (wpAny_field hz rfl (x := .ref TO) rfl ?_)
  refine wpAny_bind (wpAny_setField_rec hz (by simp) fun g0 hz0 hs0 => ?_)
  replace hz0 : IsZip g0 z TI TO .ellipsis := hz0
  have kp0 : ∀ c o, c ≠ z → s.heap.get? c = some o → g0.get? c = some o := fun c o c1 e => hs0.extBut _ _ c1 e
  have sz0 : g0.objs.size = s.heap.objs.size := hs0.1
  have hTO0 : g0.get? TO = some { cls := .type "tuple", data := .seq #[a1, a2, a3] } := kp0 _ _ D.TO_z hTO
  refine wpAny_bind ?_
  simp only [List.zipIdx_cons, List.zipIdx_nil, List.forIn_cons, List.forIn_nil]
  refine wpAny_bind (wpAny_bind (wpAny_onRaise ?_))
  show wpAny _ _ (Builtin.SmallTypes.nextOf (.ref i1) >>= _) _ _ _
  refine wpAny_bind (wpAny_nextOf_list_item (h1.at fun o e => kp0 _ o D.i1_z e) (hl1.at fun o e => kp0 _ o D.l1_z e) hx1 fun f1 e1 fs1 => wpAny_pure ?_)
  have hTOf1 : f1.get? TO = some { cls := .type "tuple", data := .seq #[a1, a2, a3] } := fs1.extBut _ _ D.TO_i1 hTO0
  refine wpAny_bind (wpAny_seqItems hTOf1 rfl ?_)
  refine wpAny_bind (wpAny_updateSeq hTOf1 rfl ?_)
  have hs1 := Heap.SameBut.update f1 TO (Obj.mapSeq (·.setIfInBounds 0 x1))
  have hTO1 : (f1.update TO (Obj.mapSeq (·.setIfInBounds 0 x1))).get? TO = some { cls := .type "tuple", data := .seq #[x1, a2, a3] } := by rw [Heap.get?_update_self _ hTOf1 rfl]; simp [Obj.mapSeq]
  generalize f1.update TO (Obj.mapSeq (·.setIfInBounds 0 x1)) = g1 at hs1 hTO1 ⊢
  have kp1 : ∀ c o, c ≠ z → c ≠ TO → c ≠ i1 → s.heap.get? c = some o → g1.get? c = some o := fun c o cz cTO ci1 e => hs1.extBut _ _ cTO (fs1.extBut _ _ ci1 (kp0 c o cz e))
  have hz1 : IsZip g1 z TI TO .ellipsis := hs1.extBut _ _ D.TO_z.symm (fs1.extBut _ _ D.i1_z.symm hz0)
  have sz1 : g1.objs.size = s.heap.objs.size := by rw [hs1.1, fs1.1, sz0]
  have t1_1 : g1.IsListIter i1 l1 (k + 1) := e1.extBut hs1.extBut D.TO_i1.symm
  refine wpAny_bind (wpAny_letGo (wpAny_pure ?_))
  refine wpAny_bind (wpAny_bind (wpAny_onRaise ?_))
  show wpAny _ _ (Builtin.SmallTypes.nextOf (.ref i2) >>= _) _ _ _
  refine wpAny_bind (wpAny_nextOf_list_item (h2.at fun o e => kp1 _ o D.i2_z D.TO_i2.symm D.i1_i2.symm e) (hl2.at fun o e => kp1 _ o D.l2_z D.l2_TO D.l2_i1 e) hx2 fun f2 e2 fs2 => wpAny_pure ?_)
  have hTOf2 : f2.get? TO = some { cls := .type "tuple", data := .seq #[x1, a2, a3] } := fs2.extBut _ _ D.TO_i2 hTO1
  refine wpAny_bind (wpAny_seqItems hTOf2 rfl ?_)
  refine wpAny_bind (wpAny_updateSeq hTOf2 rfl ?_)
  have hs2 := Heap.SameBut.update f2 TO (Obj.mapSeq (·.setIfInBounds 1 x2))
  have hTO2 : (f2.update TO (Obj.mapSeq (·.setIfInBounds 1 x2))).get? TO = some { cls := .type "tuple", data := .seq #[x1, x2, a3] } := by rw [Heap.get?_update_self _ hTOf2 rfl]; simp [Obj.mapSeq]
  generalize f2.update TO (Obj.mapSeq (·.setIfInBounds 1 x2)) = g2 at hs2 hTO2 ⊢
  have kp2 : ∀ c o, c ≠ z → c ≠ TO → c ≠ i1 → c ≠ i2 → s.heap.get? c = some o → g2.get? c = some o := fun c o cz cTO ci1 ci2 e => hs2.extBut _ _ cTO (fs2.extBut _ _ ci2 (kp1 c o cz cTO ci1 e))
  have hz2 : IsZip g2 z TI TO .ellipsis := hs2.extBut _ _ D.TO_z.symm (fs2.extBut _ _ D.i2_z.symm hz1)
  have sz2 : g2.objs.size = s.heap.objs.size := by rw [hs2.1, fs2.1, sz1]
  have t1_2 : g2.IsListIter i1 l1 (k + 1) := (t1_1.extBut fs2.extBut D.i1_i2).extBut hs2.extBut D.TO_i1.symm
  have t2_2 : g2.IsListIter i2 l2 (k + 1) := e2.extBut hs2.extBut D.TO_i2.symm
  refine wpAny_bind (wpAny_letGo (wpAny_pure ?_))
  refine wpAny_bind (wpAny_bind (wpAny_onRaise ?_))
  show wpAny _ _ (Builtin.SmallTypes.nextOf (.ref i3) >>= _) _ _ _
  refine wpAny_bind (wpAny_nextOf_list_item (h3.at fun o e => kp2 _ o D.i3_z D.TO_i3.symm D.i1_i3.symm D.i2_i3.symm e) (hl3.at fun o e => kp2 _ o D.l3_z D.l3_TO D.l3_i1 D.l3_i2 e) hx3 fun f3 e3 fs3 => wpAny_pure ?_)
  have hTOf3 : f3.get? TO = some { cls := .type "tuple", data := .seq #[x1, x2, a3] } := fs3.extBut _ _ D.TO_i3 hTO2
  refine wpAny_bind (wpAny_seqItems hTOf3 rfl ?_)
  refine wpAny_bind (wpAny_updateSeq hTOf3 rfl ?_)
  have hs3 := Heap.SameBut.update f3 TO (Obj.mapSeq (·.setIfInBounds 2 x3))
  have hTO3 : (f3.update TO (Obj.mapSeq (·.setIfInBounds 2 x3))).get? TO = some { cls := .type "tuple", data := .seq #[x1, x2, x3] } := by rw [Heap.get?_update_self _ hTOf3 rfl]; simp [Obj.mapSeq]
  generalize f3.update TO (Obj.mapSeq (·.setIfInBounds 2 x3)) = g3 at hs3 hTO3 ⊢
  have kp3 : ∀ c o, c ≠ z → c ≠ TO → c ≠ i1 → c ≠ i2 → c ≠ i3 → s.heap.get? c = some o → g3.get? c = some o := fun c o cz cTO ci1 ci2 ci3 e => hs3.extBut _ _ cTO (fs3.extBut _ _ ci3 (kp2 c o cz cTO ci1 ci2 e))
  have hz3 : IsZip g3 z TI TO .ellipsis := hs3.extBut _ _ D.TO_z.symm (fs3.extBut _ _ D.i3_z.symm hz2)
  have sz3 : g3.objs.size = s.heap.objs.size := by rw [hs3.1, fs3.1, sz2]
  have t1_3 : g3.IsListIter i1 l1 (k + 1) := (t1_2.extBut fs3.extBut D.i1_i3).extBut hs3.extBut D.TO_i1.symm
  have t2_3 : g3.IsListIter i2 l2 (k + 1) := (t2_2.extBut fs3.extBut D.i2_i3).extBut hs3.extBut D.TO_i2.symm
  have t3_3 : g3.IsListIter i3 l3 (k + 1) := e3.extBut hs3.extBut D.TO_i3.symm
  refine wpAny_bind (wpAny_letGo (wpAny_pure (wpAny_pure ?_)))
  refine wpAny_bind (wpAny_seqItems hTO3 rfl ?_)
  refine wpAny_bind (wpAny_newTuple ?_)
  have hzlt : z < g3.objs.size := Heap.lt_size hz3
  show wpAny _ _ (Builtin.SmallTypes.ownedTupleHandOut (.ref z) (.ref g3.objs.size) >>= _) _ _ _
  refine wpAny_bind ?_
  unfold Builtin.SmallTypes.ownedTupleHandOut
  have hzp : IsZip (g3.push { cls := .type "tuple", data := .seq #[x1, x2, x3] }) z TI TO .ellipsis := Heap.get?_push_of_some _ hz3
  refine wpAny_bind (wpAny_setField_rec hzp (by simp) fun p7 hz7 hs7 => ?_)
  replace hz7 : IsZip p7 z TI TO (rawInt g3.objs.size) := hz7
  refine wpAny_setField_rec hz7 (by simp) fun p8 hz8 hs8 => ?_
  replace hz8 : IsZip p8 z TI TO (rawInt g3.objs.size) := hz8
  have up : ∀ c o, c ≠ z → g3.get? c = some o → p8.get? c = some o := fun c o c1 e => hs8.extBut _ _ c1 (hs7.extBut _ _ c1 (Heap.get?_push_of_some _ e))
  have hT8 : p8.get? g3.objs.size = some { cls := .type "tuple", data := .seq #[x1, x2, x3] } := hs8.extBut _ _ (Nat.ne_of_gt hzlt) (hs7.extBut _ _ (Nat.ne_of_gt hzlt) (Heap.get?_push_size _ rfl))
  have sz8 : p8.objs.size = g3.objs.size + 1 := by rw [hs8.1, hs7.1, Heap.size_push]
  rw [sz3] at hz8 hT8 sz8
  refine wpAny_pure ⟨_, rfl, ?_⟩
  show Q (.ref g3.objs.size) _
  rw [sz3]
  exact hQ p8 hz8 (up _ _ D.TO_z hTO3) (t1_3.at fun o e => up _ o D.i1_z e) (t2_3.at fun o e => up _ o D.i2_z e) (t3_3.at fun o e => up _ o D.i3_z e) hT8 sz8 fun c o cz cTO ci1 ci2 ci3 e => up c o cz (kp3 c o cz cTO ci1 ci2 ci3 e)
theorem zip3_next_end {z TI TO i1 i2 i3 l1 l2 l3 : Addr} {k : Nat} {xs1 xs2 xs3 : Array Value} {a1 a2 a3 : Value} {Q : Fin → Shared → Prop} (hh : A.handled = none) (D : ZA3 z TI TO i1 i2 i3 l1 l2 l3)
    (hz : IsZip s.heap z TI TO .none) (hTI : s.heap.get? TI = some { cls := .type "tuple", data := .seq #[.ref i1, .ref i2, .ref i3] }) (hTO : s.heap.get? TO = some { cls := .type "tuple", data := .seq #[a1, a2, a3] })
    (h1 : s.heap.IsListIter i1 l1 k) (h2 : s.heap.IsListIter i2 l2 k) (h3 : s.heap.IsListIter i3 l3 k) (hl1 : s.heap.IsList l1 xs1) (hl2 : s.heap.IsList l2 xs2) (hl3 : s.heap.IsList l3 xs3) (hend : xs1[k]? = none ∨ xs2[k]? = none ∨ xs3[k]? = none)
    (hE : ∀ h' e, (∀ c o, c ≠ z → c ≠ TO → c ≠ i1 → c ≠ i2 → c ≠ i3 → s.heap.get? c = some o → h'.get? c = some o) → (∃ o, h'.get? e = some o ∧ o.cls = .type "StopIteration") → E (.ref e) { s with heap := h' }) :
    wpAny (model prog w) A (Builtin.«zip.__next__» ⟨[.ref z], []⟩) Q E s := by
  show wpAny _ _ (field (.ref z) 2 >>= _) _ _ _
  refine wpAny_bind (wpAny_field hz rfl (x := .bool false) rfl ?_)
  show wpAny _ _ (field (.ref z) 3 >>= _) _ _ _
  refine wpAny_bind (wpAny_field hz rfl (x := .ref TI) rfl ?_)
  refine wpAny_bind (wpAny_seqItems hTI rfl ?_)
  show wpAny _ _ (Builtin.SmallTypes.ownedTupleIsFree (.ref z) >>= _) _ _ _
  refine wpAny_bind ?_
  unfold Builtin.SmallTypes.ownedTupleIsFree
  refine wpAny_bind (wpAny_field hz rfl (x := .none) rfl (wpAny_pure ?_))
  simp only [if_true]
  refine wpAny_bind (wpAny_rule ?_)
  refine wpAny_bind (wpAny_field hz rfl (x := .ref TO) rfl ?_)
  refine wpAny_bind (wpAny_setField_rec hz (by simp) fun g0 hz0 hs0 => ?_)
  replace hz0 : IsZip g0 z TI TO .ellipsis := hz0
  have kp0 : ∀ c o, c ≠ z → s.heap.get? c = some o → g0.get? c = some o := fun c o c1 e => hs0.extBut _ _ c1 e
  have sz0 : g0.objs.size = s.heap.objs.size := hs0.1
  have hTO0 : g0.get? TO = some { cls := .type "tuple", data := .seq #[a1, a2, a3] } := kp0 _ _ D.TO_z hTO
  refine wpAny_bind ?_
  simp only [List.zipIdx_cons, List.zipIdx_nil, List.forIn_cons, List.forIn_nil]
  refine wpAny_bind (wpAny_bind (wpAny_onRaise ?_))
  show wpAny _ _ (Builtin.SmallTypes.nextOf (.ref i1) >>= _) _ _ _
  cases hx1 : xs1[k]? with
  | none =>
    refine wpAny_bind (wpAny_nextOf_list_end hh (h1.at fun o e => kp0 _ o D.i1_z e) (hl1.at fun o e => kp0 _ o D.l1_z e) hx1 fun q1 e hq1 he => ?_)
    obtain ⟨oe, hoe, hce⟩ := he
    have hzq : IsZip q1 z TI TO .ellipsis := hq1 _ _ D.i1_z.symm hz0
    have hez : e ≠ z := fun x => by subst x; rw [hzq] at hoe; cases hoe; simp at hce
    exact wpAny_setField_rec hzq (by simp) fun q2 _ hq2 => hE q2 e (fun c o cz cTO ci1 ci2 ci3 x => hq2.extBut _ _ cz (hq1 _ _ ci1 (kp0 c o cz x))) ⟨oe, hq2.extBut _ _ hez hoe, hce⟩
  | some x1 =>
    refine wpAny_bind (wpAny_nextOf_list_item (h1.at fun o e => kp0 _ o D.i1_z e) (hl1.at fun o e => kp0 _ o D.l1_z e) hx1 fun f1 e1 fs1 => wpAny_pure ?_)
    have hTOf1 : f1.get? TO = some { cls := .type "tuple", data := .seq #[a1, a2, a3] } := fs1.extBut _ _ D.TO_i1 hTO0
    refine wpAny_bind (wpAny_seqItems hTOf1 rfl ?_)
    refine wpAny_bind (wpAny_updateSeq hTOf1 rfl ?_)
    have hs1 := Heap.SameBut.update f1 TO (Obj.mapSeq (·.setIfInBounds 0 x1))
    have hTO1 : (f1.update TO (Obj.mapSeq (·.setIfInBounds 0 x1))).get? TO = some { cls := .type "tuple", data := .seq #[x1, a2, a3] } := by rw [Heap.get?_update_self _ hTOf1 rfl]; simp [Obj.mapSeq]
    generalize f1.update TO (Obj.mapSeq (·.setIfInBounds 0 x1)) = g1 at hs1 hTO1 ⊢
    have kp1 : ∀ c o, c ≠ z → c ≠ TO → c ≠ i1 → s.heap.get? c = some o → g1.get? c = some o := fun c o cz cTO ci1 e => hs1.extBut _ _ cTO (fs1.extBut _ _ ci1 (kp0 c o cz e))
    have hz1 : IsZip g1 z TI TO .ellipsis := hs1.extBut _ _ D.TO_z.symm (fs1.extBut _ _ D.i1_z.symm hz0)
    have sz1 : g1.objs.size = s.heap.objs.size := by rw [hs1.1, fs1.1, sz0]
    have t1_1 : g1.IsListIter i1 l1 (k + 1) := e1.extBut hs1.extBut D.TO_i1.symm
    refine wpAny_bind (wpAny_letGo (wpAny_pure ?_))
    refine wpAny_bind (wpAny_bind (wpAny_onRaise ?_))
    show wpAny _ _ (Builtin.SmallTypes.nextOf (.ref i2) >>= _) _ _ _
    cases hx2 : xs2[k]? with
    | none =>
      refine wpAny_bind (wpAny_nextOf_list_end hh (h2.at fun o e => kp1 _ o D.i2_z D.TO_i2.symm D.i1_i2.symm e) (hl2.at fun o e => kp1 _ o D.l2_z D.l2_TO D.l2_i1 e) hx2 fun q1 e hq1 he => ?_)
      obtain ⟨oe, hoe, hce⟩ := he
      have hzq : IsZip q1 z TI TO .ellipsis := hq1 _ _ D.i2_z.symm hz1
      have hez : e ≠ z := fun x => by subst x; rw [hzq] at hoe; cases hoe; simp at hce
      exact wpAny_setField_rec hzq (by simp) fun q2 _ hq2 => hE q2 e (fun c o cz cTO ci1 ci2 ci3 x => hq2.extBut _ _ cz (hq1 _ _ ci2 (kp1 c o cz cTO ci1 x))) ⟨oe, hq2.extBut _ _ hez hoe, hce⟩
    | some x2 =>
      refine wpAny_bind (wpAny_nextOf_list_item (h2.at fun o e => kp1 _ o D.i2_z D.TO_i2.symm D.i1_i2.symm e) (hl2.at fun o e => kp1 _ o D.l2_z D.l2_TO D.l2_i1 e) hx2 fun f2 e2 fs2 => wpAny_pure ?_)
      have hTOf2 : f2.get? TO = some { cls := .type "tuple", data := .seq #[x1, a2, a3] } := fs2.extBut _ _ D.TO_i2 hTO1
      refine wpAny_bind (wpAny_seqItems hTOf2 rfl ?_)
      refine wpAny_bind (wpAny_updateSeq hTOf2 rfl ?_)
      have hs2 := Heap.SameBut.update f2 TO (Obj.mapSeq (·.setIfInBounds 1 x2))
      have hTO2 : (f2.update TO (Obj.mapSeq (·.setIfInBounds 1 x2))).get? TO = some { cls := .type "tuple", data := .seq #[x1, x2, a3] } := by rw [Heap.get?_update_self _ hTOf2 rfl]; simp [Obj.mapSeq]
      generalize f2.update TO (Obj.mapSeq (·.setIfInBounds 1 x2)) = g2 at hs2 hTO2 ⊢
      have kp2 : ∀ c o, c ≠ z → c ≠ TO → c ≠ i1 → c ≠ i2 → s.heap.get? c = some o → g2.get? c = some o := fun c o cz cTO ci1 ci2 e => hs2.extBut _ _ cTO (fs2.extBut _ _ ci2 (kp1 c o cz cTO ci1 e))
      have hz2 : IsZip g2 z TI TO .ellipsis := hs2.extBut _ _ D.TO_z.symm (fs2.extBut _ _ D.i2_z.symm hz1)
      have sz2 : g2.objs.size = s.heap.objs.size := by rw [hs2.1, fs2.1, sz1]
      have t1_2 : g2.IsListIter i1 l1 (k + 1) := (t1_1.extBut fs2.extBut D.i1_i2).extBut hs2.extBut D.TO_i1.symm
      have t2_2 : g2.IsListIter i2 l2 (k + 1) := e2.extBut hs2.extBut D.TO_i2.symm
      refine wpAny_bind (wpAny_letGo (wpAny_pure ?_))
      refine wpAny_bind (wpAny_bind (wpAny_onRaise ?_))
      show wpAny _ _ (Builtin.SmallTypes.nextOf (.ref i3) >>= _) _ _ _
      cases hx3 : xs3[k]? with
      | none =>
        refine wpAny_bind (wpAny_nextOf_list_end hh (h3.at fun o e => kp2 _ o D.i3_z D.TO_i3.symm D.i1_i3.symm D.i2_i3.symm e) (hl3.at fun o e => kp2 _ o D.l3_z D.l3_TO D.l3_i1 D.l3_i2 e) hx3 fun q1 e hq1 he => ?_)
        obtain ⟨oe, hoe, hce⟩ := he
        have hzq : IsZip q1 z TI TO .ellipsis := hq1 _ _ D.i3_z.symm hz2
        have hez : e ≠ z := fun x => by subst x; rw [hzq] at hoe; cases hoe; simp at hce
        exact wpAny_setField_rec hzq (by simp) fun q2 _ hq2 => hE q2 e (fun c o cz cTO ci1 ci2 ci3 x => hq2.extBut _ _ cz (hq1 _ _ ci3 (kp2 c o cz cTO ci1 ci2 x))) ⟨oe, hq2.extBut _ _ hez hoe, hce⟩
      | some x3 =>
        exfalso
        rcases hend with h | h | h
        · rw [hx1] at h; cases h
        · rw [hx2] at h; cases h
        · rw [hx3] at h; cases h
theorem next_zip3_item {z TI TO i1 i2 i3 l1 l2 l3 : Addr} {k : Nat} {xs1 xs2 xs3 : Array Value} {a1 a2 a3 : Value} {x1 x2 x3 : Value} {Q : Option Value → Shared → Prop} (D : ZA3 z TI TO i1 i2 i3 l1 l2 l3)
    (hz : IsZip s.heap z TI TO .none) (hTI : s.heap.get? TI = some { cls := .type "tuple", data := .seq #[.ref i1, .ref i2, .ref i3] }) (hTO : s.heap.get? TO = some { cls := .type "tuple", data := .seq #[a1, a2, a3] })
    (h1 : s.heap.IsListIter i1 l1 k) (h2 : s.heap.IsListIter i2 l2 k) (h3 : s.heap.IsListIter i3 l3 k) (hl1 : s.heap.IsList l1 xs1) (hl2 : s.heap.IsList l2 xs2) (hl3 : s.heap.IsList l3 xs3) (hx1 : xs1[k]? = some x1) (hx2 : xs2[k]? = some x2) (hx3 : xs3[k]? = some x3)
    (hQ : ∀ h', IsZip h' z TI TO (rawInt s.heap.objs.size) → h'.get? TO = some { cls := .type "tuple", data := .seq #[x1, x2, x3] } → h'.IsListIter i1 l1 (k + 1) → h'.IsListIter i2 l2 (k + 1) → h'.IsListIter i3 l3 (k + 1) → h'.get? s.heap.objs.size = some { cls := .type "tuple", data := .seq #[x1, x2, x3] } → h'.objs.size = s.heap.objs.size + 1 →
      (∀ c o, c ≠ z → c ≠ TO → c ≠ i1 → c ≠ i2 → c ≠ i3 → s.heap.get? c = some o → h'.get? c = some o) → Q (some (.ref s.heap.objs.size)) { s with heap := h' }) :
    wpAny (model prog w) A (pyNext (.ref z)) Q E s := by
  have hT : s.TypeIs (.ref z) "zip" := ⟨_, hz, rfl⟩
  unfold pyNext
  exact wpAny_bind (wpAny_attempt (wpAny_callSpecial?_slot (name := Str.ofString "__next__") hT F.slot_zip_next
    (wpAny_call_entry F.slot_zip_next hT F.entry_zip_next
      (zip3_next_item D hz hTI hTO h1 h2 h3 hl1 hl2 hl3 hx1 hx2 hx3 fun h' b0 b1 b2 b3 b4 b5 b6 b7 => wpAny_pure (hQ h' b0 b1 b2 b3 b4 b5 b6 b7)) (F.args_zip_next_1 _))))
theorem next_zip3_end {z TI TO i1 i2 i3 l1 l2 l3 : Addr} {k : Nat} {xs1 xs2 xs3 : Array Value} {a1 a2 a3 : Value} {Q : Option Value → Shared → Prop} (hh : A.handled = none) (D : ZA3 z TI TO i1 i2 i3 l1 l2 l3)
    (hz : IsZip s.heap z TI TO .none) (hTI : s.heap.get? TI = some { cls := .type "tuple", data := .seq #[.ref i1, .ref i2, .ref i3] }) (hTO : s.heap.get? TO = some { cls := .type "tuple", data := .seq #[a1, a2, a3] })
    (h1 : s.heap.IsListIter i1 l1 k) (h2 : s.heap.IsListIter i2 l2 k) (h3 : s.heap.IsListIter i3 l3 k) (hl1 : s.heap.IsList l1 xs1) (hl2 : s.heap.IsList l2 xs2) (hl3 : s.heap.IsList l3 xs3) (hend : xs1[k]? = none ∨ xs2[k]? = none ∨ xs3[k]? = none)
    (hQ : ∀ h', (∀ c o, c ≠ z → c ≠ TO → c ≠ i1 → c ≠ i2 → c ≠ i3 → s.heap.get? c = some o → h'.get? c = some o) → Q none { s with heap := h' }) : wpAny (model prog w) A (pyNext (.ref z)) Q E s := by
  have hT : s.TypeIs (.ref z) "zip" := ⟨_, hz, rfl⟩
  unfold pyNext
  refine wpAny_bind (wpAny_attempt (wpAny_callSpecial?_slot (name := Str.ofString "__next__") hT F.slot_zip_next
    (wpAny_call_entry F.slot_zip_next hT F.entry_zip_next (zip3_next_end hh D hz hTI hTO h1 h2 h3 hl1 hl2 hl3 hend fun h' e hk he => ?_) (F.args_zip_next_1 _))))
  obtain ⟨o, ho, hc⟩ := he
  refine wpAny_bind (wpAny_isInstance (T := "StopIteration") (b := true) ⟨o, ho, hc⟩ isSubtype_stop ?_)
  exact wpAny_pure (hQ _ hk)
end
theorem typeCall_zip3 (a1 a2 a3 : Value) : checkTypeCall "zip" ⟨[a1, a2, a3], []⟩ = pure () := by kernel_rfl
theorem newCall_zip3 (a1 a2 a3 : Value) : checkBuiltinCall "zip.__new__" ⟨[.type "zip", a1, a2, a3], []⟩ = pure () := by kernel_rfl
theorem args_obj_init3 (b a1 a2 a3 : Value) : argsOk "object.__init__" ⟨[b, a1, a2, a3], []⟩ := by
  unfold argsOk; rw [signature?_of (id := "object.__init__") (n := ['_', '_', 't', 'i', 'n', 'i', '_', '_']) (o := ['t', 'c', 'e', 'j', 'b', 'o']) (by kernel_rfl) F.owner_object]; kernel_rfl
abbrev zh3_1 (h : Heap) (l1 : Addr) : Heap := h.push { cls := .type "list_iterator", data := .fields #[.ref l1, .int 0 0] }
abbrev zh3_2 (h : Heap) (l1 l2 : Addr) : Heap := (zh3_1 h l1).push { cls := .type "list_iterator", data := .fields #[.ref l2, .int 0 0] }
abbrev zh3_3 (h : Heap) (l1 l2 l3 : Addr) : Heap := (zh3_2 h l1 l2).push { cls := .type "list_iterator", data := .fields #[.ref l3, .int 0 0] }
abbrev zh3_4 (h : Heap) (l1 l2 l3 : Addr) : Heap := (zh3_3 h l1 l2 l3).push { cls := .type "tuple", data := .seq #[.ref h.objs.size, .ref (zh3_1 h l1).objs.size, .ref (zh3_2 h l1 l2).objs.size] }
abbrev zh3_5 (h : Heap) (l1 l2 l3 : Addr) : Heap := (zh3_4 h l1 l2 l3).push { cls := .type "tuple", data := .seq #[.none, .none, .none] }
abbrev zh3_6 (h : Heap) (l1 l2 l3 : Addr) : Heap := (zh3_5 h l1 l2 l3).push { cls := .type "zip", data := .fields #[.none, .bool false, .bool false, .ref (zh3_3 h l1 l2 l3).objs.size, .ref (zh3_4 h l1 l2 l3).objs.size] }
theorem meets_zip3_new (l1 l2 l3 : Addr) (xs1 xs2 xs3 : Array Value) :
    Meets (Builtin.«zip.__new__» ⟨[.type "zip", .ref l1, .ref l2, .ref l3], []⟩) (fun _ R s => s.heap.IsList l1 xs1 ∧ s.heap.IsList l2 xs2 ∧ s.heap.IsList l3 xs3 ∧ R (.ok (.ret (.ref (zh3_5 s.heap l1 l2 l3).objs.size))) { s with heap := zh3_6 s.heap l1 l2 l3 }) :=
  .of_wp fun prog w A R s h => by
    obtain ⟨hp, g, d, tk, os⟩ := s; obtain ⟨hl1, hl2, hl3, h⟩ := h
    have hsub := sub_zip
    have hL1 : Heap.IsList (Shared.heap ⟨hp, g, d, tk, os⟩) l1 xs1 := hl1
    have hL2 : Heap.IsList (Shared.heap ⟨(zh3_1 hp l1), g, d, tk, os⟩) l2 xs2 := Heap.IsList.push (hl2) _
    have hL3 : Heap.IsList (Shared.heap ⟨(zh3_2 hp l1 l2), g, d, tk, os⟩) l3 xs3 := Heap.IsList.push (Heap.IsList.push (hl3) _) _
    wp_walk using wpAny_pyIter_list hL1, wpAny_pyIter_list hL2, wpAny_pyIter_list hL3
    exact ⟨_, rfl, h⟩
section
variable {prog : Program} {w : World} {A : Around} {E : Value → Shared → Prop} {s : Shared}
theorem call_zip3 {l1 l2 l3 : Addr} {xs1 xs2 xs3 : Array Value} {Q : Value → Shared → Prop} (hl1 : s.heap.IsList l1 xs1) (hl2 : s.heap.IsList l2 xs2) (hl3 : s.heap.IsList l3 xs3)
    (h : ∀ h', IsZip h' (s.heap.objs.size + 5) (s.heap.objs.size + 3) (s.heap.objs.size + 4) .none → h'.get? (s.heap.objs.size + 3) = some { cls := .type "tuple", data := .seq #[.ref s.heap.objs.size, .ref (s.heap.objs.size + 1), .ref (s.heap.objs.size + 2)] } → h'.get? (s.heap.objs.size + 4) = some { cls := .type "tuple", data := .seq #[.none, .none, .none] } → h'.IsListIter s.heap.objs.size l1 0 → h'.IsListIter (s.heap.objs.size + 1) l2 0 → h'.IsListIter (s.heap.objs.size + 2) l3 0 → h'.objs.size = (s.heap.objs.size + 6) → (∀ c o, s.heap.get? c = some o → h'.get? c = some o) → Q (.ref (s.heap.objs.size + 5)) { s with heap := h' }) :
    wpAny (model prog w) A (call (.type "zip") [.ref l1, .ref l2, .ref l3]) Q E s := by
  refine callType_new F.called_zip (by decide) (typeCall_zip3 _ _ _) (newCall_zip3 _ _ _) (fun obj => args_obj_init3 obj _ _ _) F.entry_zip_new
    (meets_zip3_new l1 l2 l3 xs1 xs2 xs3) ⟨hl1, hl2, hl3, ?_⟩
  have z1 : (zh3_1 s.heap l1).objs.size = s.heap.objs.size + 1 := by rw [Heap.size_push]
  have z2 : (zh3_2 s.heap l1 l2).objs.size = s.heap.objs.size + 2 := by rw [Heap.size_push, z1]
  have z3 : (zh3_3 s.heap l1 l2 l3).objs.size = s.heap.objs.size + 3 := by rw [Heap.size_push, z2]
  have z4 : (zh3_4 s.heap l1 l2 l3).objs.size = s.heap.objs.size + 4 := by rw [Heap.size_push, z3]
  have z5 : (zh3_5 s.heap l1 l2 l3).objs.size = s.heap.objs.size + 5 := by rw [Heap.size_push, z4]
  have z6 : (zh3_6 s.heap l1 l2 l3).objs.size = s.heap.objs.size + 6 := by rw [Heap.size_push, z5]
  have p0 : (zh3_6 s.heap l1 l2 l3).get? s.heap.objs.size = some _ := Heap.get?_push_of_some _ (Heap.get?_push_of_some _ (Heap.get?_push_of_some _ (Heap.get?_push_of_some _ (Heap.get?_push_of_some _ (Heap.get?_push_size _ rfl)))))
  have p1 : (zh3_6 s.heap l1 l2 l3).get? (zh3_1 s.heap l1).objs.size = some _ := Heap.get?_push_of_some _ (Heap.get?_push_of_some _ (Heap.get?_push_of_some _ (Heap.get?_push_of_some _ (Heap.get?_push_size _ rfl))))
  have p2 : (zh3_6 s.heap l1 l2 l3).get? (zh3_2 s.heap l1 l2).objs.size = some _ := Heap.get?_push_of_some _ (Heap.get?_push_of_some _ (Heap.get?_push_of_some _ (Heap.get?_push_size _ rfl)))
  have p3 : (zh3_6 s.heap l1 l2 l3).get? (zh3_3 s.heap l1 l2 l3).objs.size = some _ := Heap.get?_push_of_some _ (Heap.get?_push_of_some _ (Heap.get?_push_size _ rfl))
  have p4 : (zh3_6 s.heap l1 l2 l3).get? (zh3_4 s.heap l1 l2 l3).objs.size = some _ := Heap.get?_push_of_some _ (Heap.get?_push_size _ rfl)
  have p5 : (zh3_6 s.heap l1 l2 l3).get? (zh3_5 s.heap l1 l2 l3).objs.size = some _ := Heap.get?_push_size _ rfl
  show _ ∧ _
  rw [z3, z4, z5] at p5
  rw [z1, z2, z3] at p3
  rw [z4] at p4
  rw [z1] at p1
  rw [z2] at p2
  rw [z5]
  exact ⟨⟨_, p5, rfl⟩, h _ p5 p3 p4 ⟨_, p0, rfl, rfl⟩ ⟨_, p1, rfl, rfl⟩ ⟨_, p2, rfl, rfl⟩ z6 fun c o x => Heap.get?_push_of_some _ (Heap.get?_push_of_some _ (Heap.get?_push_of_some _ (Heap.get?_push_of_some _ (Heap.get?_push_of_some _ (Heap.get?_push_of_some _ (x))))))⟩
end
theorem za3_of (m l1 l2 l3 : Nat) (b1 : l1 < m) (b2 : l2 < m) (b3 : l3 < m) : ZA3 (m + 5) (m + 3) (m + 4) m (m + 1) (m + 2) l1 l2 l3 := by
  constructor <;> (refine PySem.W.neN ?_; omega)
structure ZA4 (z TI TO i1 i2 i3 i4 l1 l2 l3 l4 : Addr) : Prop where
  TI_z : TI ≠ z
  TO_z : TO ≠ z
  i1_z : i1 ≠ z
  i2_z : i2 ≠ z
  i3_z : i3 ≠ z
  i4_z : i4 ≠ z
  TI_TO : TI ≠ TO
  TI_i1 : TI ≠ i1
  TI_i2 : TI ≠ i2
  TI_i3 : TI ≠ i3
  TI_i4 : TI ≠ i4
  TO_i1 : TO ≠ i1
  TO_i2 : TO ≠ i2
  TO_i3 : TO ≠ i3
  TO_i4 : TO ≠ i4
  i1_i2 : i1 ≠ i2
  i1_i3 : i1 ≠ i3
  i1_i4 : i1 ≠ i4
  i2_i3 : i2 ≠ i3
  i2_i4 : i2 ≠ i4
  i3_i4 : i3 ≠ i4
  l1_z : l1 ≠ z
  l2_z : l2 ≠ z
  l3_z : l3 ≠ z
  l4_z : l4 ≠ z
  l1_TO : l1 ≠ TO
  l2_TO : l2 ≠ TO
  l3_TO : l3 ≠ TO
  l4_TO : l4 ≠ TO
  l1_i1 : l1 ≠ i1
  l1_i2 : l1 ≠ i2
  l1_i3 : l1 ≠ i3
  l1_i4 : l1 ≠ i4
  l2_i1 : l2 ≠ i1
  l2_i2 : l2 ≠ i2
  l2_i3 : l2 ≠ i3
  l2_i4 : l2 ≠ i4
  l3_i1 : l3 ≠ i1
  l3_i2 : l3 ≠ i2
  l3_i3 : l3 ≠ i3
  l3_i4 : l3 ≠ i4
  l4_i1 : l4 ≠ i1
  l4_i2 : l4 ≠ i2
  l4_i3 : l4 ≠ i3
  l4_i4 : l4 ≠ i4
section
variable {prog : Program} {w : World} {A : Around} {E : Value → Shared → Prop} {s : Shared}
theorem zip4_next_item {z TI TO i1 i2 i3 i4 l1 l2 l3 l4 : Addr} {k : Nat} {xs1 xs2 xs3 xs4 : Array Value} {a1 a2 a3 a4 : Value} {x1 x2 x3 x4 : Value} {Q : Value → Shared → Prop} (D : ZA4 z TI TO i1 i2 i3 i4 l1 l2 l3 l4)
    (hz : IsZip s.heap z TI TO .none) (hTI : s.heap.get? TI = some { cls := .type "tuple", data := .seq #[.ref i1, .ref i2, .ref i3, .ref i4] }) (hTO : s.heap.get? TO = some { cls := .type "tuple", data := .seq #[a1, a2, a3, a4] })
    (h1 : s.heap.IsListIter i1 l1 k) (h2 : s.heap.IsListIter i2 l2 k) (h3 : s.heap.IsListIter i3 l3 k) (h4 : s.heap.IsListIter i4 l4 k) (hl1 : s.heap.IsList l1 xs1) (hl2 : s.heap.IsList l2 xs2) (hl3 : s.heap.IsList l3 xs3) (hl4 : s.heap.IsList l4 xs4) (hx1 : xs1[k]? = some x1) (hx2 : xs2[k]? = some x2) (hx3 : xs3[k]? = some x3) (hx4 : xs4[k]? = some x4)
    (hQ : ∀ h', IsZip h' z TI TO (rawInt s.heap.objs.size) → h'.get? TO = some { cls := .type "tuple", data := .seq #[x1, x2, x3, x4] } → h'.IsListIter i1 l1 (k + 1) → h'.IsListIter i2 l2 (k + 1) → h'.IsListIter i3 l3 (k + 1) → h'.IsListIter i4 l4 (k + 1) → h'.get? s.heap.objs.size = some { cls := .type "tuple", data := .seq #[x1, x2, x3, x4] } → h'.objs.size = s.heap.objs.size + 1 →
      (∀ c o, c ≠ z → c ≠ TO → c ≠ i1 → c ≠ i2 → c ≠ i3 → c ≠ i4 → s.heap.get? c = some o → h'.get? c = some o) → Q (.ref s.heap.objs.size) { s with heap := h' }) :
    wpAny (model prog w) A (Builtin.«zip.__next__» ⟨[.ref z], []⟩) (fun fin s' => ∃ v, fin = .done (.ret v) ∧ Q v s') E s := by
  show wpAny _ _ (field (.ref z) 2 >>= _) _ _ _
  refine wpAny_bind (wpAny_field hz rfl (x := .bool false) rfl ?_)
  show wpAny _ _ (field (.ref z) 3 >>= _) _ _ _
  refine wpAny_bind (wpAny_field hz rfl (x := .ref TI) rfl ?_)
  refine wpAny_bind (wpAny_seqItems hTI rfl ?_)
  show wpAny _ _ (Builtin.SmallTypes.ownedTupleIsFree (.ref z) >>= _) _ _ _
  refine wpAny_bind ?_
  unfold Builtin.SmallTypes.ownedTupleIsFree
  refine wpAny_bind (wpAny_field hz rfl (x := .none) rfl (wpAny_pure ?_))
  simp only [if_true]
  refine wpAny_bind (wpAny_rule ?_)
  refine wpAny_bind (wpAny_field hz rfl (x := .ref TO) rfl ?_)
  refine wpAny_bind (wpAny_setField_rec hz (by simp) fun g0 hz0 hs0 => ?_)
  replace hz0 : IsZip g0 z TI TO .ellipsis := hz0
  have kp0 : ∀ c o, c ≠ z → s.heap.get? c = some o → g0.get? c = some o := fun c o c1 e => hs0.extBut _ _ c1 e
  have sz0 : g0.objs.size = s.heap.objs.size := hs0.1
  have hTO0 : g0.get? TO = some { cls := .type "tuple", data := .seq #[a1, a2, a3, a4] } := kp0 _ _ D.TO_z hTO
  refine wpAny_bind ?_
  simp only [List.zipIdx_cons, List.zipIdx_nil, List.forIn_cons, List.forIn_nil]
  refine wpAny_bind (wpAny_bind (wpAny_onRaise ?_))
  show wpAny _ _ (Builtin.SmallTypes.nextOf (.ref i1) >>= _) _ _ _
  refine wpAny_bind (wpAny_nextOf_list_item (h1.at fun o e => kp0 _ o D.i1_z e) (hl1.at fun o e => kp0 _ o D.l1_z e) hx1 fun f1 e1 fs1 => wpAny_pure ?_)
  have hTOf1 : f1.get? TO = some { cls := .type "tuple", data := .seq #[a1, a2, a3, a4] } := fs1.extBut _ _ D.TO_i1 hTO0
  refine wpAny_bind (wpAny_seqItems hTOf1 rfl ?_)
  refine wpAny_bind (wpAny_updateSeq hTOf1 rfl ?_)
  have hs1 := Heap.SameBut.update f1 TO (Obj.mapSeq (·.setIfInBounds 0 x1))
  have hTO1 : (f1.update TO (Obj.mapSeq (·.setIfInBounds 0 x1))).get? TO = some { cls := .type "tuple", data := .seq #[x1, a2, a3, a4] } := by rw [Heap.get?_update_self _ hTOf1 rfl]; simp [Obj.mapSeq]
  generalize f1.update TO (Obj.mapSeq (·.setIfInBounds 0 x1)) = g1 at hs1 hTO1 ⊢
  have kp1 : ∀ c o, c ≠ z → c ≠ TO → c ≠ i1 → s.heap.get? c = some o → g1.get? c = some o := fun c o cz cTO ci1 e => hs1.extBut _ _ cTO (fs1.extBut _ _ ci1 (kp0 c o cz e))
  have hz1 : IsZip g1 z TI TO .ellipsis := hs1.extBut _ _ D.TO_z.symm (fs1.extBut _ _ D.i1_z.symm hz0)
  have sz1 : g1.objs.size = s.heap.objs.size := by rw [hs1.1, fs1.1, sz0]
  have t1_1 : g1.IsListIter i1 l1 (k + 1) := e1.extBut hs1.extBut D.TO_i1.symm
  refine wpAny_bind (wpAny_letGo (wpAny_pure ?_))
  refine wpAny_bind (wpAny_bind (wpAny_onRaise ?_))
  show wpAny _ _ (Builtin.SmallTypes.nextOf (.ref i2) >>= _) _ _ _
  refine wpAny_bind (wpAny_nextOf_list_item (h2.at fun o e => kp1 _ o D.i2_z D.TO_i2.symm D.i1_i2.symm e) (hl2.at fun o e => kp1 _ o D.l2_z D.l2_TO D.l2_i1 e) hx2 fun f2 e2 fs2 => wpAny_pure ?_)
  have hTOf2 : f2.get? TO = some { cls := .type "tuple", data := .seq #[x1, a2, a3, a4] } := fs2.extBut _ _ D.TO_i2 hTO1
  refine wpAny_bind (wpAny_seqItems hTOf2 rfl ?_)
  refine wpAny_bind (wpAny_updateSeq hTOf2 rfl ?_)
  have hs2 := Heap.SameBut.update f2 TO (Obj.mapSeq (·.setIfInBounds 1 x2))
  have hTO2 : (f2.update TO (Obj.mapSeq (·.setIfInBounds 1 x2))).get? TO = some { cls := .type "tuple", data := .seq #[x1, x2, a3, a4] } := by rw [Heap.get?_update_self _ hTOf2 rfl]; simp [Obj.mapSeq]
  generalize f2.update TO (Obj.mapSeq (·.setIfInBounds 1 x2)) = g2 at hs2 hTO2 ⊢
  have kp2 : ∀ c o, c ≠ z → c ≠ TO → c ≠ i1 → c ≠ i2 → s.heap.get? c = some o → g2.get? c = some o := fun c o cz cTO ci1 ci2 e => hs2.extBut _ _ cTO (fs2.extBut _ _ ci2 (kp1 c o cz cTO ci1 e))
  have hz2 : IsZip g2 z TI TO .ellipsis := hs2.extBut _ _ D.TO_z.symm (fs2.extBut _ _ D.i2_z.symm hz1)
  have sz2 : g2.objs.size = s.heap.objs.size := by rw [hs2.1, fs2.1, sz1]
  have t1_2 : g2.IsListIter i1 l1 (k + 1) := (t1_1.extBut fs2.extBut D.i1_i2).extBut hs2.extBut D.TO_i1.symm
  have t2_2 : g2.IsListIter i2 l2 (k + 1) := e2.extBut hs2.extBut D.TO_i2.symm
  refine wpAny_bind (wpAny_letGo (wpAny_pure ?_))
  refine wpAny_bind (wpAny_bind (wpAny_onRaise ?_))
  show wpAny _ _ (Builtin.SmallTypes.nextOf (.ref i3) >>= _) _ _ _
  refine wpAny_bind (wpAny_nextOf_list_item (h3.at fun o e => kp2 _ o D.i3_z D.TO_i3.symm D.i1_i3.symm D.i2_i3.symm e) (hl3.at fun o e => kp2 _ o D.l3_z D.l3_TO D.l3_i1 D.l3_i2 e) hx3 fun f3 e3 fs3 => wpAny_pure ?_)
  have hTOf3 : f3.get? TO = some { cls := .type "tuple", data := .seq #[x1, x2, a3, a4] } := fs3.extBut _ _ D.TO_i3 hTO2
  refine wpAny_bind (wpAny_seqItems hTOf3 rfl ?_)
  refine wpAny_bind (wpAny_updateSeq hTOf3 rfl ?_)
  have hs3 := Heap.SameBut.update f3 TO (Obj.mapSeq (·.setIfInBounds 2 x3))
  have hTO3 : (f3.update TO (Obj.mapSeq (·.setIfInBounds 2 x3))).get? TO = some { cls := .type "tuple", data := .seq #[x1, x2, x3, a4] } := by rw [Heap.get?_update_self _ hTOf3 rfl]; simp [Obj.mapSeq]
  generalize f3.update TO (Obj.mapSeq (·.setIfInBounds 2 x3)) = g3 at hs3 hTO3 ⊢
  have kp3 : ∀ c o, c ≠ z → c ≠ TO → c ≠ i1 → c ≠ i2 → c ≠ i3 → s.heap.get? c = some o → g3.get? c = some o := fun c o cz cTO ci1 ci2 ci3 e => hs3.extBut _ _ cTO (fs3.extBut _ _ ci3 (kp2 c o cz cTO ci1 ci2 e))
  have hz3 : IsZip g3 z TI TO .ellipsis := hs3.extBut _ _ D.TO_z.symm (fs3.extBut _ _ D.i3_z.symm hz2)
  have sz3 : g3.objs.size = s.heap.objs.size := by rw [hs3.1, fs3.1, sz2]
  have t1_3 : g3.IsListIter i1 l1 (k + 1) := (t1_2.extBut fs3.extBut D.i1_i3).extBut hs3.extBut D.TO_i1.symm
  have t2_3 : g3.IsListIter i2 l2 (k + 1) := (t2_2.extBut fs3.extBut D.i2_i3).extBut hs3.extBut D.TO_i2.symm
  have t3_3 : g3.IsListIter i3 l3 (k + 1) := e3.extBut hs3.extBut D.TO_i3.symm
  refine wpAny_bind (wpAny_letGo (wpAny_pure ?_))
  refine wpAny_bind (wpAny_bind (wpAny_onRaise ?_))
  show wpAny _ _ (Builtin.SmallTypes.nextOf (.ref i4) >>= _) _ _ _
  refine wpAny_bind (wpAny_nextOf_list_item (h4.at fun o e => kp3 _ o D.i4_z D.TO_i4.symm D.i1_i4.symm D.i2_i4.symm D.i3_i4.symm e) (hl4.at fun o e => kp3 _ o D.l4_z D.l4_TO D.l4_i1 D.l4_i2 D.l4_i3 e) hx4 fun f4 e4 fs4 => wpAny_pure ?_)
  have hTOf4 : f4.get? TO = some { cls := .type "tuple", data := .seq #[x1, x2, x3, a4] } := fs4.extBut _ _ D.TO_i4 hTO3
  refine wpAny_bind (wpAny_seqItems hTOf4 rfl ?_)
  refine wpAny_bind (wpAny_updateSeq hTOf4 rfl ?_)
  have hs4 := Heap.SameBut.update f4 TO (Obj.mapSeq (·.setIfInBounds 3 x4))
  have hTO4 : (f4.update TO (Obj.mapSeq (·.setIfInBounds 3 x4))).get? TO = some { cls := .type "tuple", data := .seq #[x1, x2, x3, x4] } := by rw [Heap.get?_update_self _ hTOf4 rfl]; simp [Obj.mapSeq]
  generalize f4.update TO (Obj.mapSeq (·.setIfInBounds 3 x4)) = g4 at hs4 hTO4 ⊢
  have kp4 : ∀ c o, c ≠ z → c ≠ TO → c ≠ i1 → c ≠ i2 → c ≠ i3 → c ≠ i4 → s.heap.get? c = some o → g4.get? c = some o := fun c o cz cTO ci1 ci2 ci3 ci4 e => hs4.extBut _ _ cTO (fs4.extBut _ _ ci4 (kp3 c o cz cTO ci1 ci2 ci3 e))
  have hz4 : IsZip g4 z TI TO .ellipsis := hs4.extBut _ _ D.TO_z.symm (fs4.extBut _ _ D.i4_z.symm hz3)
  have sz4 : g4.objs.size = s.heap.objs.size := by rw [hs4.1, fs4.1, sz3]
  have t1_4 : g4.IsListIter i1 l1 (k + 1) := (t1_3.extBut fs4.extBut D.i1_i4).extBut hs4.extBut D.TO_i1.symm
  have t2_4 : g4.IsListIter i2 l2 (k + 1) := (t2_3.extBut fs4.extBut D.i2_i4).extBut hs4.extBut D.TO_i2.symm
  have t3_4 : g4.IsListIter i3 l3 (k + 1) := (t3_3.extBut fs4.extBut D.i3_i4).extBut hs4.extBut D.TO_i3.symm
  have t4_4 : g4.IsListIter i4 l4 (k + 1) := e4.extBut hs4.extBut D.TO_i4.symm
  refine wpAny_bind (wpAny_letGo (wpAny_pure (wpAny_pure ?_)))
  refine wpAny_bind (wpAny_seqItems hTO4 rfl ?_)
  refine wpAny_bind (wpAny_newTuple ?_)
  have hzlt : z < g4.objs.size := Heap.lt_size hz4
  show wpAny _ _ (Builtin.SmallTypes.ownedTupleHandOut (.ref z) (.ref g4.objs.size) >>= _) _ _ _
  refine wpAny_bind ?_
  unfold Builtin.SmallTypes.ownedTupleHandOut
  have hzp : IsZip (g4.push { cls := .type "tuple", data := .seq #[x1, x2, x3, x4] }) z TI TO .ellipsis := Heap.get?_push_of_some _ hz4
  refine wpAny_bind (wpAny_setField_rec hzp (by simp) fun p7 hz7 hs7 => ?_)
  replace hz7 : IsZip p7 z TI TO (rawInt g4.objs.size) := hz7
  refine wpAny_setField_rec hz7 (by simp) fun p8 hz8 hs8 => ?_
  replace hz8 : IsZip p8 z TI TO (rawInt g4.objs.size) := hz8
  have up : ∀ c o, c ≠ z → g4.get? c = some o → p8.get? c = some o := fun c o c1 e => hs8.extBut _ _ c1 (hs7.extBut _ _ c1 (Heap.get?_push_of_some _ e))
  have hT8 : p8.get? g4.objs.size = some { cls := .type "tuple", data := .seq #[x1, x2, x3, x4] } := hs8.extBut _ _ (Nat.ne_of_gt hzlt) (hs7.extBut _ _ (Nat.ne_of_gt hzlt) (Heap.get?_push_size _ rfl))
  have sz8 : p8.objs.size = g4.objs.size + 1 := by rw [hs8.1, hs7.1, Heap.size_push]
  rw [sz4] at hz8 hT8 sz8
  refine wpAny_pure ⟨_, rfl, ?_⟩
  show Q (.ref g4.objs.size) _
  rw [sz4]
  exact hQ p8 hz8 (up _ _ D.TO_z hTO4) (t1_4.at fun o e => up _ o D.i1_z e) (t2_4.at fun o e => up _ o D.i2_z e) (t3_4.at fun o e => up _ o D.i3_z e) (t4_4.at fun o e => up _ o D.i4_z e) hT8 sz8 fun c o cz cTO ci1 ci2 ci3 ci4 e => up c o cz (kp4 c o cz cTO ci1 ci2 ci3 ci4 e)
theorem zip4_next_end {z TI TO i1 i2 i3 i4 l1 l2 l3 l4 : Addr} {k : Nat} {xs1 xs2 xs3 xs4 : Array Value} {a1 a2 a3 a4 : Value} {Q : Fin → Shared → Prop} (hh : A.handled = none) (D : ZA4 z TI TO i1 i2 i3 i4 l1 l2 l3 l4)
    (hz : IsZip s.heap z TI TO .none) (hTI : s.heap.get? TI = some { cls := .type "tuple", data := .seq #[.ref i1, .ref i2, .ref i3, .ref i4] }) (hTO : s.heap.get? TO = some { cls := .type "tuple", data := .seq #[a1, a2, a3, a4] })
    (h1 : s.heap.IsListIter i1 l1 k) (h2 : s.heap.IsListIter i2 l2 k) (h3 : s.heap.IsListIter i3 l3 k) (h4 : s.heap.IsListIter i4 l4 k) (hl1 : s.heap.IsList l1 xs1) (hl2 : s.heap.IsList l2 xs2) (hl3 : s.heap.IsList l3 xs3) (hl4 : s.heap.IsList l4 xs4) (hend : xs1[k]? = none ∨ xs2[k]? = none ∨ xs3[k]? = none ∨ xs4[k]? = none)
    (hE : ∀ h' e, (∀ c o, c ≠ z → c ≠ TO → c ≠ i1 → c ≠ i2 → c ≠ i3 → c ≠ i4 → s.heap.get? c = some o → h'.get? c = some o) → (∃ o, h'.get? e = some o ∧ o.cls = .type "StopIteration") → E (.ref e) { s with heap := h' }) :
    wpAny (model prog w) A (Builtin.«zip.__next__» ⟨[.ref z], []⟩) Q E s := by
  show wpAny _ _ (field (.ref z) 2 >>= _) _ _ _
  refine wpAny_bind (wpAny_field hz rfl (x := .bool false) rfl ?_)
  show wpAny _ _ (field (.ref z) 3 >>= _) _ _ _
  refine wpAny_bind (wpAny_field hz rfl (x := .ref TI) rfl ?_)
  refine wpAny_bind (wpAny_seqItems hTI rfl ?_)
  show wpAny _ _ (Builtin.SmallTypes.ownedTupleIsFree (.ref z) >>= _) _ _ _
  refine wpAny_bind ?_
  unfold Builtin.SmallTypes.ownedTupleIsFree
  refine wpAny_bind (wpAny_field hz rfl (x := .none) rfl (wpAny_pure ?_))
  simp only [if_true]
  refine wpAny_bind (wpAny_rule ?_)
  refine wpAny_bind (wpAny_field hz rfl (x := .ref TO) rfl ?_)
  refine wpAny_bind (wpAny_setField_rec hz (by simp) fun g0 hz0 hs0 => ?_)
  replace hz0 : IsZip g0 z TI TO .ellipsis := hz0
  have kp0 : ∀ c o, c ≠ z → s.heap.get? c = some o → g0.get? c = some o := fun c o c1 e => hs0.extBut _ _ c1 e
  have sz0 : g0.objs.size = s.heap.objs.size := hs0.1
  have hTO0 : g0.get? TO = some { cls := .type "tuple", data := .seq #[a1, a2, a3, a4] } := kp0 _ _ D.TO_z hTO
  refine wpAny_bind ?_
  simp only [List.zipIdx_cons, List.zipIdx_nil, List.forIn_cons, List.forIn_nil]
  refine wpAny_bind (wpAny_bind (wpAny_onRaise ?_))
  show wpAny _ _ (Builtin.SmallTypes.nextOf (.ref i1) >>= _) _ _ _
  cases hx1 : xs1[k]? with
  | none =>
    refine wpAny_bind (wpAny_nextOf_list_end hh (h1.at fun o e => kp0 _ o D.i1_z e) (hl1.at fun o e => kp0 _ o D.l1_z e) hx1 fun q1 e hq1 he => ?_)
    obtain ⟨oe, hoe, hce⟩ := he
    have hzq : IsZip q1 z TI TO .ellipsis := hq1 _ _ D.i1_z.symm hz0
    have hez : e ≠ z := fun x => by subst x; rw [hzq] at hoe; cases hoe; simp at hce
    exact wpAny_setField_rec hzq (by simp) fun q2 _ hq2 => hE q2 e (fun c o cz cTO ci1 ci2 ci3 ci4 x => hq2.extBut _ _ cz (hq1 _ _ ci1 (kp0 c o cz x))) ⟨oe, hq2.extBut _ _ hez hoe, hce⟩
  | some x1 =>
    refine wpAny_bind (wpAny_nextOf_list_item (h1.at fun o e => kp0 _ o D.i1_z e) (hl1.at fun o e => kp0 _ o D.l1_z e) hx1 fun f1 e1 fs1 => wpAny_pure ?_)
    have hTOf1 : f1.get? TO = some { cls := .type "tuple", data := .seq #[a1, a2, a3, a4] } := fs1.extBut _ _ D.TO_i1 hTO0
    refine wpAny_bind (wpAny_seqItems hTOf1 rfl ?_)
    refine wpAny_bind (wpAny_updateSeq hTOf1 rfl ?_)
    have hs1 := Heap.SameBut.update f1 TO (Obj.mapSeq (·.setIfInBounds 0 x1))
    have hTO1 : (f1.update TO (Obj.mapSeq (·.setIfInBounds 0 x1))).get? TO = some { cls := .type "tuple", data := .seq #[x1, a2, a3, a4] } := by rw [Heap.get?_update_self _ hTOf1 rfl]; simp [Obj.mapSeq]
    generalize f1.update TO (Obj.mapSeq (·.setIfInBounds 0 x1)) = g1 at hs1 hTO1 ⊢
    have kp1 : ∀ c o, c ≠ z → c ≠ TO → c ≠ i1 → s.heap.get? c = some o → g1.get? c = some o := fun c o cz cTO ci1 e => hs1.extBut _ _ cTO (fs1.extBut _ _ ci1 (kp0 c o cz e))
    have hz1 : IsZip g1 z TI TO .ellipsis := hs1.extBut _ _ D.TO_z.symm (fs1.extBut _ _ D.i1_z.symm hz0)
    have sz1 : g1.objs.size = s.heap.objs.size := by rw [hs1.1, fs1.1, sz0]
    have t1_1 : g1.IsListIter i1 l1 (k + 1) := e1.extBut hs1.extBut D.TO_i1.symm
    refine wpAny_bind (wpAny_letGo (wpAny_pure ?_))
    refine wpAny_bind (wpAny_bind (wpAny_onRaise ?_))
    show wpAny _ _ (Builtin.SmallTypes.nextOf (.ref i2) >>= _) _ _ _
    cases hx2 : xs2[k]? with
    | none =>
      refine wpAny_bind (wpAny_nextOf_list_end hh (h2.at fun o e => kp1 _ o D.i2_z D.TO_i2.symm D.i1_i2.symm e) (hl2.at fun o e => kp1 _ o D.l2_z D.l2_TO D.l2_i1 e) hx2 fun q1 e hq1 he => ?_)
      obtain ⟨oe, hoe, hce⟩ := he
      have hzq : IsZip q1 z TI TO .ellipsis := hq1 _ _ D.i2_z.symm hz1
      have hez : e ≠ z := fun x => by subst x; rw [hzq] at hoe; cases hoe; simp at hce
      exact wpAny_setField_rec hzq (by simp) fun q2 _ hq2 => hE q2 e (fun c o cz cTO ci1 ci2 ci3 ci4 x => hq2.extBut _ _ cz (hq1 _ _ ci2 (kp1 c o cz cTO ci1 x))) ⟨oe, hq2.extBut _ _ hez hoe, hce⟩
    | some x2 =>
      refine wpAny_bind (wpAny_nextOf_list_item (h2.at fun o e => kp1 _ o D.i2_z D.TO_i2.symm D.i1_i2.symm e) (hl2.at fun o e => kp1 _ o D.l2_z D.l2_TO D.l2_i1 e) hx2 fun f2 e2 fs2 => wpAny_pure ?_)
      have hTOf2 : f2.get? TO = some { cls := .type "tuple", data := .seq #[x1, a2, a3, a4] } := fs2.extBut _ _ D.TO_i2 hTO1
      refine wpAny_bind (wpAny_seqItems hTOf2 rfl ?_)
      refine wpAny_bind (wpAny_updateSeq hTOf2 rfl ?_)
      have hs2 := Heap.SameBut.update f2 TO (Obj.mapSeq (·.setIfInBounds 1 x2))
      have hTO2 : (f2.update TO (Obj.mapSeq (·.setIfInBounds 1 x2))).get? TO = some { cls := .type "tuple", data := .seq #[x1, x2, a3, a4] } := by rw [Heap.get?_update_self _ hTOf2 rfl]; simp [Obj.mapSeq]
      generalize f2.update TO (Obj.mapSeq (·.setIfInBounds 1 x2)) = g2 at hs2 hTO2 ⊢
      have kp2 : ∀ c o, c ≠ z → c ≠ TO → c ≠ i1 → c ≠ i2 → s.heap.get? c = some o → g2.get? c = some o := fun c o cz cTO ci1 ci2 e => hs2.extBut _ _ cTO (fs2.extBut _ _ ci2 (kp1 c o cz cTO ci1 e))
      have hz2 : IsZip g2 z TI TO .ellipsis := hs2.extBut _ _ D.TO_z.symm (fs2.extBut _ _ D.i2_z.symm hz1)
      have sz2 : g2.objs.size = s.heap.objs.size := by rw [hs2.1, fs2.1, sz1]
      have t1_2 : g2.IsListIter i1 l1 (k + 1) := (t1_1.extBut fs2.extBut D.i1_i2).extBut hs2.extBut D.TO_i1.symm
      have t2_2 : g2.IsListIter i2 l2 (k + 1) := e2.extBut hs2.extBut D.TO_i2.symm
      refine wpAny_bind (wpAny_letGo (wpAny_pure ?_))
      refine wpAny_bind (wpAny_bind (wpAny_onRaise ?_))
      show wpAny _ _ (Builtin.SmallTypes.nextOf (.ref i3) >>= _) _ _ _
      cases hx3 : xs3[k]? with
      | none =>
        refine wpAny_bind (wpAny_nextOf_list_end hh (h3.at fun o e => kp2 _ o D.i3_z D.TO_i3.symm D.i1_i3.symm D.i2_i3.symm e) (hl3.at fun o e => kp2 _ o D.l3_z D.l3_TO D.l3_i1 D.l3_i2 e) hx3 fun q1 e hq1 he => ?_)
        obtain ⟨oe, hoe, hce⟩ := he
        have hzq : IsZip q1 z TI TO .ellipsis := hq1 _ _ D.i3_z.symm hz2
        have hez : e ≠ z := fun x => by subst x; rw [hzq] at hoe; cases hoe; simp at hce
        exact wpAny_setField_rec hzq (by simp) fun q2 _ hq2 => hE q2 e (fun c o cz cTO ci1 ci2 ci3 ci4 x => hq2.extBut _ _ cz (hq1 _ _ ci3 (kp2 c o cz cTO ci1 ci2 x))) ⟨oe, hq2.extBut _ _ hez hoe, hce⟩
      | some x3 =>
        refine wpAny_bind (wpAny_nextOf_list_item (h3.at fun o e => kp2 _ o D.i3_z D.TO_i3.symm D.i1_i3.symm D.i2_i3.symm e) (hl3.at fun o e => kp2 _ o D.l3_z D.l3_TO D.l3_i1 D.l3_i2 e) hx3 fun f3 e3 fs3 => wpAny_pure ?_)
        have hTOf3 : f3.get? TO = some { cls := .type "tuple", data := .seq #[x1, x2, a3, a4] } := fs3.extBut _ _ D.TO_i3 hTO2
        refine wpAny_bind (wpAny_seqItems hTOf3 rfl ?_)
        refine wpAny_bind (wpAny_updateSeq hTOf3 rfl ?_)
        have hs3 := Heap.SameBut.update f3 TO (Obj.mapSeq (·.setIfInBounds 2 x3))
        have hTO3 : (f3.update TO (Obj.mapSeq (·.setIfInBounds 2 x3))).get? TO = some { cls := .type "tuple", data := .seq #[x1, x2, x3, a4] } := by rw [Heap.get?_update_self _ hTOf3 rfl]; simp [Obj.mapSeq]
        generalize f3.update TO (Obj.mapSeq (·.setIfInBounds 2 x3)) = g3 at hs3 hTO3 ⊢
        have kp3 : ∀ c o, c ≠ z → c ≠ TO → c ≠ i1 → c ≠ i2 → c ≠ i3 → s.heap.get? c = some o → g3.get? c = some o := fun c o cz cTO ci1 ci2 ci3 e => hs3.extBut _ _ cTO (fs3.extBut _ _ ci3 (kp2 c o cz cTO ci1 ci2 e))
        have hz3 : IsZip g3 z TI TO .ellipsis := hs3.extBut _ _ D.TO_z.symm (fs3.extBut _ _ D.i3_z.symm hz2)
        have sz3 : g3.objs.size = s.heap.objs.size := by rw [hs3.1, fs3.1, sz2]
        have t1_3 : g3.IsListIter i1 l1 (k + 1) := (t1_2.extBut fs3.extBut D.i1_i3).extBut hs3.extBut D.TO_i1.symm
        have t2_3 : g3.IsListIter i2 l2 (k + 1) := (t2_2.extBut fs3.extBut D.i2_i3).extBut hs3.extBut D.TO_i2.symm
        have t3_3 : g3.IsListIter i3 l3 (k + 1) := e3.extBut hs3.extBut D.TO_i3.symm
        refine wpAny_bind (wpAny_letGo (wpAny_pure ?_))
        refine wpAny_bind (wpAny_bind (wpAny_onRaise ?_))
        show wpAny _ _ (Builtin.SmallTypes.nextOf (.ref i4) >>= _) _ _ _
        cases hx4 : xs4[k]? with
        | none =>
          refine wpAny_bind (wpAny_nextOf_list_end hh (h4.at fun o e => kp3 _ o D.i4_z D.TO_i4.symm D.i1_i4.symm D.i2_i4.symm D.i3_i4.symm e) (hl4.at fun o e => kp3 _ o D.l4_z D.l4_TO D.l4_i1 D.l4_i2 D.l4_i3 e) hx4 fun q1 e hq1 he => ?_)
          obtain ⟨oe, hoe, hce⟩ := he
          have hzq : IsZip q1 z TI TO .ellipsis := hq1 _ _ D.i4_z.symm hz3
          have hez : e ≠ z := fun x => by subst x; rw [hzq] at hoe; cases hoe; simp at hce
          exact wpAny_setField_rec hzq (by simp) fun q2 _ hq2 => hE q2 e (fun c o cz cTO ci1 ci2 ci3 ci4 x => hq2.extBut _ _ cz (hq1 _ _ ci4 (kp3 c o cz cTO ci1 ci2 ci3 x))) ⟨oe, hq2.extBut _ _ hez hoe, hce⟩
        | some x4 =>
          exfalso
          rcases hend with h | h | h | h
          · rw [hx1] at h; cases h
          · rw [hx2] at h; cases h
          · rw [hx3] at h; cases h
          · rw [hx4] at h; cases h
theorem next_zip4_item {z TI TO i1 i2 i3 i4 l1 l2 l3 l4 : Addr} {k : Nat} {xs1 xs2 xs3 xs4 : Array Value} {a1 a2 a3 a4 : Value} {x1 x2 x3 x4 : Value} {Q : Option Value → Shared → Prop} (D : ZA4 z TI TO i1 i2 i3 i4 l1 l2 l3 l4)
    (hz : IsZip s.heap z TI TO .none) (hTI : s.heap.get? TI = some { cls := .type "tuple", data := .seq #[.ref i1, .ref i2, .ref i3, .ref i4] }) (hTO : s.heap.get? TO = some { cls := .type "tuple", data := .seq #[a1, a2, a3, a4] })
    (h1 : s.heap.IsListIter i1 l1 k) (h2 : s.heap.IsListIter i2 l2 k) (h3 : s.heap.IsListIter i3 l3 k) (h4 : s.heap.IsListIter i4 l4 k) (hl1 : s.heap.IsList l1 xs1) (hl2 : s.heap.IsList l2 xs2) (hl3 : s.heap.IsList l3 xs3) (hl4 : s.heap.IsList l4 xs4) (hx1 : xs1[k]? = some x1) (hx2 : xs2[k]? = some x2) (hx3 : xs3[k]? = some x3) (hx4 : xs4[k]? = some x4)
    (hQ : ∀ h', IsZip h' z TI TO (rawInt s.heap.objs.size) → h'.get? TO = some { cls := .type "tuple", data := .seq #[x1, x2, x3, x4] } → h'.IsListIter i1 l1 (k + 1) → h'.IsListIter i2 l2 (k + 1) → h'.IsListIter i3 l3 (k + 1) → h'.IsListIter i4 l4 (k + 1) → h'.get? s.heap.objs.size = some { cls := .type "tuple", data := .seq #[x1, x2, x3, x4] } → h'.objs.size = s.heap.objs.size + 1 →
      (∀ c o, c ≠ z → c ≠ TO → c ≠ i1 → c ≠ i2 → c ≠ i3 → c ≠ i4 → s.heap.get? c = some o → h'.get? c = some o) → Q (some (.ref s.heap.objs.size)) { s with heap := h' }) :
    wpAny (model prog w) A (pyNext (.ref z)) Q E s := by
  have hT : s.TypeIs (.ref z) "zip" := ⟨_, hz, rfl⟩
  unfold pyNext
  exact wpAny_bind (wpAny_attempt (wpAny_callSpecial?_slot (name := Str.ofString "__next__") hT F.slot_zip_next
    (wpAny_call_entry F.slot_zip_next hT F.entry_zip_next
      (zip4_next_item D hz hTI hTO h1 h2 h3 h4 hl1 hl2 hl3 hl4 hx1 hx2 hx3 hx4 fun h' b0 b1 b2 b3 b4 b5 b6 b7 b8 => wpAny_pure (hQ h' b0 b1 b2 b3 b4 b5 b6 b7 b8)) (F.args_zip_next_1 _))))
theorem next_zip4_end {z TI TO i1 i2 i3 i4 l1 l2 l3 l4 : Addr} {k : Nat} {xs1 xs2 xs3 xs4 : Array Value} {a1 a2 a3 a4 : Value} {Q : Option Value → Shared → Prop} (hh : A.handled = none) (D : ZA4 z TI TO i1 i2 i3 i4 l1 l2 l3 l4)
    (hz : IsZip s.heap z TI TO .none) (hTI : s.heap.get? TI = some { cls := .type "tuple", data := .seq #[.ref i1, .ref i2, .ref i3, .ref i4] }) (hTO : s.heap.get? TO = some { cls := .type "tuple", data := .seq #[a1, a2, a3, a4] })
    (h1 : s.heap.IsListIter i1 l1 k) (h2 : s.heap.IsListIter i2 l2 k) (h3 : s.heap.IsListIter i3 l3 k) (h4 : s.heap.IsListIter i4 l4 k) (hl1 : s.heap.IsList l1 xs1) (hl2 : s.heap.IsList l2 xs2) (hl3 : s.heap.IsList l3 xs3) (hl4 : s.heap.IsList l4 xs4) (hend : xs1[k]? = none ∨ xs2[k]? = none ∨ xs3[k]? = none ∨ xs4[k]? = none)
    (hQ : ∀ h', (∀ c o, c ≠ z → c ≠ TO → c ≠ i1 → c ≠ i2 → c ≠ i3 → c ≠ i4 → s.heap.get? c = some o → h'.get? c = some o) → Q none { s with heap := h' }) : wpAny (model prog w) A (pyNext (.ref z)) Q E s := by
  have hT : s.TypeIs (.ref z) "zip" := ⟨_, hz, rfl⟩
  unfold pyNext
  refine wpAny_bind (wpAny_attempt (wpAny_callSpecial?_slot (name := Str.ofString "__next__") hT F.slot_zip_next
    (wpAny_call_entry F.slot_zip_next hT F.entry_zip_next (zip4_next_end hh D hz hTI hTO h1 h2 h3 h4 hl1 hl2 hl3 hl4 hend fun h' e hk he => ?_) (F.args_zip_next_1 _))))
  obtain ⟨o, ho, hc⟩ := he
  refine wpAny_bind (wpAny_isInstance (T := "StopIteration") (b := true) ⟨o, ho, hc⟩ isSubtype_stop ?_)
  exact wpAny_pure (hQ _ hk)
end
theorem typeCall_zip4 (a1 a2 a3 a4 : Value) : checkTypeCall "zip" ⟨[a1, a2, a3, a4], []⟩ = pure () := by kernel_rfl
theorem newCall_zip4 (a1 a2 a3 a4 : Value) : checkBuiltinCall "zip.__new__" ⟨[.type "zip", a1, a2, a3, a4], []⟩ = pure () := by kernel_rfl
theorem args_obj_init4 (b a1 a2 a3 a4 : Value) : argsOk "object.__init__" ⟨[b, a1, a2, a3, a4], []⟩ := by
  unfold argsOk; rw [signature?_of (id := "object.__init__") (n := ['_', '_', 't', 'i', 'n', 'i', '_', '_']) (o := ['t', 'c', 'e', 'j', 'b', 'o']) (by kernel_rfl) F.owner_object]; kernel_rfl
abbrev zh4_1 (h : Heap) (l1 : Addr) : Heap := h.push { cls := .type "list_iterator", data := .fields #[.ref l1, .int 0 0] }
abbrev zh4_2 (h : Heap) (l1 l2 : Addr) : Heap := (zh4_1 h l1).push { cls := .type "list_iterator", data := .fields #[.ref l2, .int 0 0] }
abbrev zh4_3 (h : Heap) (l1 l2 l3 : Addr) : Heap := (zh4_2 h l1 l2).push { cls := .type "list_iterator", data := .fields #[.ref l3, .int 0 0] }
abbrev zh4_4 (h : Heap) (l1 l2 l3 l4 : Addr) : Heap := (zh4_3 h l1 l2 l3).push { cls := .type "list_iterator", data := .fields #[.ref l4, .int 0 0] }
abbrev zh4_5 (h : Heap) (l1 l2 l3 l4 : Addr) : Heap := (zh4_4 h l1 l2 l3 l4).push { cls := .type "tuple", data := .seq #[.ref h.objs.size, .ref (zh4_1 h l1).objs.size, .ref (zh4_2 h l1 l2).objs.size, .ref (zh4_3 h l1 l2 l3).objs.size] }
abbrev zh4_6 (h : Heap) (l1 l2 l3 l4 : Addr) : Heap := (zh4_5 h l1 l2 l3 l4).push { cls := .type "tuple", data := .seq #[.none, .none, .none, .none] }
abbrev zh4_7 (h : Heap) (l1 l2 l3 l4 : Addr) : Heap := (zh4_6 h l1 l2 l3 l4).push { cls := .type "zip", data := .fields #[.none, .bool false, .bool false, .ref (zh4_4 h l1 l2 l3 l4).objs.size, .ref (zh4_5 h l1 l2 l3 l4).objs.size] }
theorem meets_zip4_new (l1 l2 l3 l4 : Addr) (xs1 xs2 xs3 xs4 : Array Value) :
    Meets (Builtin.«zip.__new__» ⟨[.type "zip", .ref l1, .ref l2, .ref l3, .ref l4], []⟩) (fun _ R s => s.heap.IsList l1 xs1 ∧ s.heap.IsList l2 xs2 ∧ s.heap.IsList l3 xs3 ∧ s.heap.IsList l4 xs4 ∧ R (.ok (.ret (.ref (zh4_6 s.heap l1 l2 l3 l4).objs.size))) { s with heap := zh4_7 s.heap l1 l2 l3 l4 }) :=
  .of_wp fun prog w A R s h => by
    obtain ⟨hp, g, d, tk, os⟩ := s; obtain ⟨hl1, hl2, hl3, hl4, h⟩ := h
    have hsub := sub_zip
    have hL1 : Heap.IsList (Shared.heap ⟨hp, g, d, tk, os⟩) l1 xs1 := hl1
    have hL2 : Heap.IsList (Shared.heap ⟨(zh4_1 hp l1), g, d, tk, os⟩) l2 xs2 := Heap.IsList.push (hl2) _
    have hL3 : Heap.IsList (Shared.heap ⟨(zh4_2 hp l1 l2), g, d, tk, os⟩) l3 xs3 := Heap.IsList.push (Heap.IsList.push (hl3) _) _
    have hL4 : Heap.IsList (Shared.heap ⟨(zh4_3 hp l1 l2 l3), g, d, tk, os⟩) l4 xs4 := Heap.IsList.push (Heap.IsList.push (Heap.IsList.push (hl4) _) _) _
    wp_walk using wpAny_pyIter_list hL1, wpAny_pyIter_list hL2, wpAny_pyIter_list hL3, wpAny_pyIter_list hL4
    exact ⟨_, rfl, h⟩
section
variable {prog : Program} {w : World} {A : Around} {E : Value → Shared → Prop} {s : Shared}
theorem call_zip4 {l1 l2 l3 l4 : Addr} {xs1 xs2 xs3 xs4 : Array Value} {Q : Value → Shared → Prop} (hl1 : s.heap.IsList l1 xs1) (hl2 : s.heap.IsList l2 xs2) (hl3 : s.heap.IsList l3 xs3) (hl4 : s.heap.IsList l4 xs4)
    (h : ∀ h', IsZip h' (s.heap.objs.size + 6) (s.heap.objs.size + 4) (s.heap.objs.size + 5) .none → h'.get? (s.heap.objs.size + 4) = some { cls := .type "tuple", data := .seq #[.ref s.heap.objs.size, .ref (s.heap.objs.size + 1), .ref (s.heap.objs.size + 2), .ref (s.heap.objs.size + 3)] } → h'.get? (s.heap.objs.size + 5) = some { cls := .type "tuple", data := .seq #[.none, .none, .none, .none] } → h'.IsListIter s.heap.objs.size l1 0 → h'.IsListIter (s.heap.objs.size + 1) l2 0 → h'.IsListIter (s.heap.objs.size + 2) l3 0 → h'.IsListIter (s.heap.objs.size + 3) l4 0 → h'.objs.size = (s.heap.objs.size + 7) → (∀ c o, s.heap.get? c = some o → h'.get? c = some o) → Q (.ref (s.heap.objs.size + 6)) { s with heap := h' }) :
    wpAny (model prog w) A (call (.type "zip") [.ref l1, .ref l2, .ref l3, .ref l4]) Q E s := by
  refine callType_new F.called_zip (by decide) (typeCall_zip4 _ _ _ _) (newCall_zip4 _ _ _ _) (fun obj => args_obj_init4 obj _ _ _ _) F.entry_zip_new
    (meets_zip4_new l1 l2 l3 l4 xs1 xs2 xs3 xs4) ⟨hl1, hl2, hl3, hl4, ?_⟩
  have z1 : (zh4_1 s.heap l1).objs.size = s.heap.objs.size + 1 := by rw [Heap.size_push]
  have z2 : (zh4_2 s.heap l1 l2).objs.size = s.heap.objs.size + 2 := by rw [Heap.size_push, z1]
  have z3 : (zh4_3 s.heap l1 l2 l3).objs.size = s.heap.objs.size + 3 := by rw [Heap.size_push, z2]
  have z4 : (zh4_4 s.heap l1 l2 l3 l4).objs.size = s.heap.objs.size + 4 := by rw [Heap.size_push, z3]
  have z5 : (zh4_5 s.heap l1 l2 l3 l4).objs.size = s.heap.objs.size + 5 := by rw [Heap.size_push, z4]
  have z6 : (zh4_6 s.heap l1 l2 l3 l4).objs.size = s.heap.objs.size + 6 := by rw [Heap.size_push, z5]
  have z7 : (zh4_7 s.heap l1 l2 l3 l4).objs.size = s.heap.objs.size + 7 := by rw [Heap.size_push, z6]
  have p0 : (zh4_7 s.heap l1 l2 l3 l4).get? s.heap.objs.size = some _ := Heap.get?_push_of_some _ (Heap.get?_push_of_some _ (Heap.get?_push_of_some _ (Heap.get?_push_of_some _ (Heap.get?_push_of_some _ (Heap.get?_push_of_some _ (Heap.get?_push_size _ rfl))))))
  have p1 : (zh4_7 s.heap l1 l2 l3 l4).get? (zh4_1 s.heap l1).objs.size = some _ := Heap.get?_push_of_some _ (Heap.get?_push_of_some _ (Heap.get?_push_of_some _ (Heap.get?_push_of_some _ (Heap.get?_push_of_some _ (Heap.get?_push_size _ rfl)))))
  have p2 : (zh4_7 s.heap l1 l2 l3 l4).get? (zh4_2 s.heap l1 l2).objs.size = some _ := Heap.get?_push_of_some _ (Heap.get?_push_of_some _ (Heap.get?_push_of_some _ (Heap.get?_push_of_some _ (Heap.get?_push_size _ rfl))))
  have p3 : (zh4_7 s.heap l1 l2 l3 l4).get? (zh4_3 s.heap l1 l2 l3).objs.size = some _ := Heap.get?_push_of_some _ (Heap.get?_push_of_some _ (Heap.get?_push_of_some _ (Heap.get?_push_size _ rfl)))
  have p4 : (zh4_7 s.heap l1 l2 l3 l4).get? (zh4_4 s.heap l1 l2 l3 l4).objs.size = some _ := Heap.get?_push_of_some _ (Heap.get?_push_of_some _ (Heap.get?_push_size _ rfl))
  have p5 : (zh4_7 s.heap l1 l2 l3 l4).get? (zh4_5 s.heap l1 l2 l3 l4).objs.size = some _ := Heap.get?_push_of_some _ (Heap.get?_push_size _ rfl)
  have p6 : (zh4_7 s.heap l1 l2 l3 l4).get? (zh4_6 s.heap l1 l2 l3 l4).objs.size = some _ := Heap.get?_push_size _ rfl
  show _ ∧ _
  rw [z4, z5, z6] at p6
  rw [z1, z2, z3, z4] at p4
  rw [z5] at p5
  rw [z1] at p1
  rw [z2] at p2
  rw [z3] at p3
  rw [z6]
  exact ⟨⟨_, p6, rfl⟩, h _ p6 p4 p5 ⟨_, p0, rfl, rfl⟩ ⟨_, p1, rfl, rfl⟩ ⟨_, p2, rfl, rfl⟩ ⟨_, p3, rfl, rfl⟩ z7 fun c o x => Heap.get?_push_of_some _ (Heap.get?_push_of_some _ (Heap.get?_push_of_some _ (Heap.get?_push_of_some _ (Heap.get?_push_of_some _ (Heap.get?_push_of_some _ (Heap.get?_push_of_some _ (x)))))))⟩
end
theorem za4_of (m l1 l2 l3 l4 : Nat) (b1 : l1 < m) (b2 : l2 < m) (b3 : l3 < m) (b4 : l4 < m) : ZA4 (m + 6) (m + 4) (m + 5) m (m + 1) (m + 2) (m + 3) l1 l2 l3 l4 := by
  constructor <;> (refine PySem.W.neN ?_; omega)
end DZ
namespace DL
open PySem PySem.Spec PyProof.Rows L2 DZ
def Itz3 (K : PySem.W.Frag) (l1 l2 l3 : Addr) : It :=
  ⟨fun i H => ∃ (ys1 ys2 ys3 : List V) (x1 x2 x3 : V), SqL K H l1 ys1 ∧ SqL K H l2 ys2 ∧ SqL K H l3 ys3 ∧ ys1[i]? = some x1 ∧ ys2[i]? = some x2 ∧ ys3[i]? = some x3,
    fun i H v H' => ∃ T x1 x2 x3, v = .ref T ∧ H T = none ∧ H' = upd H T (.tup [x1, x2, x3]) ∧ (∀ ys, SqL K H l1 ys → ys[i]? = some x1) ∧ (∀ ys, SqL K H l2 ys → ys[i]? = some x2) ∧ (∀ ys, SqL K H l3 ys → ys[i]? = some x3),
    fun i H => ∃ ys1 ys2 ys3 : List V, SqL K H l1 ys1 ∧ SqL K H l2 ys2 ∧ SqL K H l3 ys3 ∧ (ys1.length ≤ i ∨ ys2.length ≤ i ∨ ys3.length ≤ i)⟩
theorem turn_zip3 {P : Program} {w : World} {K : PySem.W.Frag} {elts : List Expr} {kk : Nat} {tpos : Pos} {z TI TO i1 i2 i3 l1 l2 l3 : Addr} (D : ZA3 z TI TO i1 i2 i3 l1 l2 l3) :
    Turn P w K (.Tuple elts kk tpos) (Itz3 K l1 l2 l3) [z, TI, TO, i1, i2, i3] z (fun i h => IsZip h z TI TO .none ∧ h.get? TI = some { cls := .type "tuple", data := .seq #[.ref i1, .ref i2, .ref i3] } ∧ (∃ x1 x2 x3, h.get? TO = some { cls := .type "tuple", data := .seq #[x1, x2, x3] }) ∧ h.IsListIter i1 l1 i ∧ h.IsListIter i2 l2 i ∧ h.IsListIter i3 l3 i) where
  mem := by simp
  obj := fun i h st c hc => by
    obtain ⟨hz, hTI, ⟨y1, y2, y3, hTO⟩, ⟨o1, e1, _, d1⟩, ⟨o2, e2, _, d2⟩, ⟨o3, e3, _, d3⟩⟩ := st
    have e' : c = z ∨ c = TI ∨ c = TO ∨ c = i1 ∨ c = i2 ∨ c = i3 := by simpa using hc
    rcases e' with q | q | q | q | q | q
    · rw [q]; exact ⟨_, hz, fun v q => nomatch q⟩
    · rw [q]; exact ⟨_, hTI, fun v q => nomatch q⟩
    · rw [q]; exact ⟨_, hTO, fun v q => nomatch q⟩
    · rw [q]; exact ⟨o1, e1, fun v q => by rw [d1] at q; cases q⟩
    · rw [q]; exact ⟨o2, e2, fun v q => by rw [d2] at q; cases q⟩
    · rw [q]; exact ⟨o3, e3, fun v q => by rw [d3] at q; cases q⟩
  keep := fun i h h' st k => by
    obtain ⟨hz, hTI, ⟨y1, y2, y3, hTO⟩, h1, h2, h3⟩ := st
    exact ⟨k z (by simp) _ hz, k TI (by simp) _ hTI, ⟨y1, y2, y3, k TO (by simp) _ hTO⟩, h1.at fun o q => k i1 (by simp) o q, h2.at fun o q => k i2 (by simp) o q, h3.at fun o q => k i3 (by simp) o q⟩
  item := by
    intro X hP hw hK hc i pins s σ H E I hf st hg
    subst hP hw hK
    obtain ⟨hz, hTI, ⟨y1, y2, y3, hTO⟩, h1, h2, h3⟩ := st
    obtain ⟨ys1, ys2, ys3, x1, x2, x3, hq1, hq2, hq3, hx1, hx2, hx3⟩ := hg
    obtain ⟨t1, rv1, p1, _⟩ := I.list hq1
    obtain ⟨t2, rv2, p2, _⟩ := I.list hq2
    obtain ⟨t3, rv3, p3, _⟩ := I.list hq3
    obtain ⟨u1, hu1, ru1⟩ := rv1.get hx1
    obtain ⟨u2, hu2, ru2⟩ := rv2.get hx2
    obtain ⟨u3, hu3, ru3⟩ := rv3.get hx3
    have hzl : z < s.heap.objs.size := Heap.lt_size hz
    refine next_zip3_item D hz hTI hTO h1 h2 h3 p1.isList p2.isList p3.isList (x1 := u1) (x2 := u2) (x3 := u3) (by simpa using hu1) (by simpa using hu2) (by simpa using hu3) fun h' z' TO' h1' h2' h3' hT hsz hk => ?_
    refine ⟨_, rfl, wpAny_letOwnedTupleGo_zip (s := { s with heap := h' }) z' fun h'' z'' sb => ?_⟩
    have hT2 : h''.get? s.heap.objs.size = some { cls := .type "tuple", data := .seq #[u1, u2, u3] } := (sb.2 _ (Nat.ne_of_gt hzl)).trans hT
    have new : ObjOk X.prog X.w (upd H s.heap.objs.size (.tup [x1, x2, x3])) h'' s.heap.objs.size (.tup [x1, x2, x3]) := ⟨by show 3 ≤ sizeLine; decide, [u1, u2, u3], (.cons ru1 (.cons ru2 (.cons ru3 .nil))), ⟨_, hT2, rfl, _, rfl⟩⟩
    have I1 : Inv X pins σ (upd H s.heap.objs.size (.tup [x1, x2, x3])) { s with heap := h'' } := I.turnedNew (t' := s.toks) (ch := [z, TI, TO, i1, i2, i3]) (fun c o hb q => (sb.2 c (fun q' => hb (by simp [q']))).trans (hk c o (fun q' => hb (by simp [q'])) (fun q' => hb (by simp [q'])) (fun q' => hb (by simp [q'])) (fun q' => hb (by simp [q'])) (fun q' => hb (by simp [q'])) q)) hf (Nat.le_refl _) new
    refine ⟨.ref s.heap.objs.size, _, I1, rfl, ⟨_, x1, x2, x3, rfl, I.hok.fresh (Nat.le_refl _), rfl, fun l hl => by rw [I.list_inj hl hq1]; exact hx1, fun l hl => by rw [I.list_inj hl hq2]; exact hx2, fun l hl => by rw [I.list_inj hl hq3]; exact hx3⟩, ⟨z'', ?_, ⟨u1, u2, u3, ?_⟩, ?_, ?_, ?_⟩, fun c hcm => ?_⟩
    · exact (sb.2 _ D.TI_z).trans (hk _ _ D.TI_z D.TI_TO D.TI_i1 D.TI_i2 D.TI_i3 hTI)
    · exact (sb.2 _ D.TO_z).trans TO'
    · exact h1'.at fun o q => (sb.2 _ D.i1_z).trans q
    · exact h2'.at fun o q => (sb.2 _ D.i2_z).trans q
    · exact h3'.at fun o q => (sb.2 _ D.i3_z).trans q
    · have hlt : c < s.heap.objs.size := by
        have e' : c = z ∨ c = TI ∨ c = TO ∨ c = i1 ∨ c = i2 ∨ c = i3 := by simpa using hcm
        rcases e' with q | q | q | q | q | q
        · rw [q]; exact hzl
        · rw [q]; exact Heap.lt_size hTI
        · rw [q]; exact Heap.lt_size hTO
        · rw [q]; obtain ⟨_, e1, _⟩ := h1; exact Heap.lt_size e1
        · rw [q]; obtain ⟨_, e1, _⟩ := h2; exact Heap.lt_size e1
        · rw [q]; obtain ⟨_, e1, _⟩ := h3; exact Heap.lt_size e1
      rw [upd_ne (Nat.ne_of_lt hlt)]
      exact (hf c hcm).1
  done := by
    intro X hP hw hK hc i pins s σ H E I hf st hg
    subst hP hw hK
    obtain ⟨hz, hTI, ⟨y1, y2, y3, hTO⟩, h1, h2, h3⟩ := st
    obtain ⟨ys1, ys2, ys3, hq1, hq2, hq3, hend⟩ := hg
    obtain ⟨t1, rv1, p1, _⟩ := I.list hq1
    have n1 := rv1.length
    obtain ⟨t2, rv2, p2, _⟩ := I.list hq2
    have n2 := rv2.length
    obtain ⟨t3, rv3, p3, _⟩ := I.list hq3
    have n3 := rv3.length
    have he : t1.toArray[i]? = none ∨ t2.toArray[i]? = none ∨ t3.toArray[i]? = none := by
      rcases hend with q | q | q
      · exact .inl (by simp; omega)
      · exact .inr (.inl (by simp; omega))
      · exact .inr (.inr ((by simp; omega)))
    exact next_zip3_end (I.ok.hd hc) D hz hTI hTO h1 h2 h3 p1.isList p2.isList p3.isList he fun h' hk => ⟨rfl, I.turnedL (t' := s.toks) (ch := [z, TI, TO, i1, i2, i3]) (fun c o hb q => hk c o (fun q' => hb (by simp [q'])) (fun q' => hb (by simp [q'])) (fun q' => hb (by simp [q'])) (fun q' => hb (by simp [q'])) (fun q' => hb (by simp [q'])) q) hf⟩
  self := fun A i s Q E st h => wpAny_pyIter_zip st.1 h
def iZip3 (K : PySem.W.Frag) (ta : TA) : TI := fun σ H R => ta σ H fun vs H1 => ∃ l1 l2 l3 ys1 ys2 ys3, vs = [.ref l1, .ref l2, .ref l3] ∧ SqL K H1 l1 ys1 ∧ SqL K H1 l2 ys2 ∧ SqL K H1 l3 ys3 ∧ R (Itz3 K l1 l2 l3) H1
theorem pi_zip3 {X : Cx} {e1 e2 e3 : Expr} {ta : TA} {p pos tpos : Pos} {elts : List Expr} {kk : Nat} (hg : Gl X "zip") (hm : X.mg "zip" = none) (ha : PA X [e1, e2, e3] ta)
    (hs : starEach [e1, e2, e3] X.env = (false, eval e1 X.env) :: starEach [e2, e3] X.env := by rfl) (hpl : (backTo pos (starEach [e2, e3] X.env)).any (·.1) = false := by rfl) :
    PI X (.Tuple elts kk tpos) (.Call (.Name "zip" p) [e1, e2, e3] [] pos) (iZip3 X.K ta) := by
  refine ⟨fun pins s σ H R I h => ?_⟩
  refine Call_ (ld_blt I hg hm PyProof.Rows.boot_zip (PyProof.Rows.callWith_type1 (thn (ha.run pos pins s σ H _ I h) fun us s1 ⟨vs, H1, I1, r1, q1⟩ => ?_) hs hpl))
  obtain ⟨l1, l2, l3, ys1, ys2, ys3, ex, hq1, hq2, hq3, q⟩ := q1
  subst ex
  cases r1 with
  | cons k1 r1' =>
    cases r1' with
    | cons k2 r2' =>
      cases r2' with
      | cons k3 r3' =>
        cases r3'
        cases k1
        cases k2
        cases k3
        obtain ⟨t1, rv1, p1, _⟩ := I1.list hq1
        obtain ⟨t2, rv2, p2, _⟩ := I1.list hq2
        obtain ⟨t3, rv3, p3, _⟩ := I1.list hq3
        refine call_zip3 p1.isList p2.isList p3.isList fun h' hz hTI hTO h1 h2 h3 hsz hk => wpAny_pyIter_zip hz ?_
        have I2 : Inv X pins σ H1 { s1 with heap := h' } := I1.kept (t' := s1.toks) hk
        refine ⟨s1.heap.objs.size + 5, [s1.heap.objs.size + 5, s1.heap.objs.size + 3, s1.heap.objs.size + 4, s1.heap.objs.size, s1.heap.objs.size + 1, s1.heap.objs.size + 2], _, _, H1, rfl, I2, turn_zip3 (za3_of s1.heap.objs.size l1 l2 l3 p1.lt p2.lt p3.lt), ⟨hz, hTI, ⟨_, _, _, hTO⟩, h1, h2, h3⟩, fun c hcm => ?_, q⟩
        have e' : c = s1.heap.objs.size + 5 ∨ c = s1.heap.objs.size + 3 ∨ c = s1.heap.objs.size + 4 ∨ c = s1.heap.objs.size ∨ c = s1.heap.objs.size + 1 ∨ c = s1.heap.objs.size + 2 := by simpa using hcm
        have hle : s1.heap.objs.size ≤ c := by rcases e' with q | q | q | q | q | q <;> (rw [q]; first | exact Nat.le_refl _ | exact Nat.le_add_right _ _)
        exact I1.fpOk hle (I1.hok.fresh hle)
def Itz4 (K : PySem.W.Frag) (l1 l2 l3 l4 : Addr) : It :=
  ⟨fun i H => ∃ (ys1 ys2 ys3 ys4 : List V) (x1 x2 x3 x4 : V), SqL K H l1 ys1 ∧ SqL K H l2 ys2 ∧ SqL K H l3 ys3 ∧ SqL K H l4 ys4 ∧ ys1[i]? = some x1 ∧ ys2[i]? = some x2 ∧ ys3[i]? = some x3 ∧ ys4[i]? = some x4,
    fun i H v H' => ∃ T x1 x2 x3 x4, v = .ref T ∧ H T = none ∧ H' = upd H T (.tup [x1, x2, x3, x4]) ∧ (∀ ys, SqL K H l1 ys → ys[i]? = some x1) ∧ (∀ ys, SqL K H l2 ys → ys[i]? = some x2) ∧ (∀ ys, SqL K H l3 ys → ys[i]? = some x3) ∧ (∀ ys, SqL K H l4 ys → ys[i]? = some x4),
    fun i H => ∃ ys1 ys2 ys3 ys4 : List V, SqL K H l1 ys1 ∧ SqL K H l2 ys2 ∧ SqL K H l3 ys3 ∧ SqL K H l4 ys4 ∧ (ys1.length ≤ i ∨ ys2.length ≤ i ∨ ys3.length ≤ i ∨ ys4.length ≤ i)⟩
theorem turn_zip4 {P : Program} {w : World} {K : PySem.W.Frag} {elts : List Expr} {kk : Nat} {tpos : Pos} {z TI TO i1 i2 i3 i4 l1 l2 l3 l4 : Addr} (D : ZA4 z TI TO i1 i2 i3 i4 l1 l2 l3 l4) :
    Turn P w K (.Tuple elts kk tpos) (Itz4 K l1 l2 l3 l4) [z, TI, TO, i1, i2, i3, i4] z (fun i h => IsZip h z TI TO .none ∧ h.get? TI = some { cls := .type "tuple", data := .seq #[.ref i1, .ref i2, .ref i3, .ref i4] } ∧ (∃ x1 x2 x3 x4, h.get? TO = some { cls := .type "tuple", data := .seq #[x1, x2, x3, x4] }) ∧ h.IsListIter i1 l1 i ∧ h.IsListIter i2 l2 i ∧ h.IsListIter i3 l3 i ∧ h.IsListIter i4 l4 i) where
  mem := by simp
  obj := fun i h st c hc => by
    obtain ⟨hz, hTI, ⟨y1, y2, y3, y4, hTO⟩, ⟨o1, e1, _, d1⟩, ⟨o2, e2, _, d2⟩, ⟨o3, e3, _, d3⟩, ⟨o4, e4, _, d4⟩⟩ := st
    have e' : c = z ∨ c = TI ∨ c = TO ∨ c = i1 ∨ c = i2 ∨ c = i3 ∨ c = i4 := by simpa using hc
    rcases e' with q | q | q | q | q | q | q
    · rw [q]; exact ⟨_, hz, fun v q => nomatch q⟩
    · rw [q]; exact ⟨_, hTI, fun v q => nomatch q⟩
    · rw [q]; exact ⟨_, hTO, fun v q => nomatch q⟩
    · rw [q]; exact ⟨o1, e1, fun v q => by rw [d1] at q; cases q⟩
    · rw [q]; exact ⟨o2, e2, fun v q => by rw [d2] at q; cases q⟩
    · rw [q]; exact ⟨o3, e3, fun v q => by rw [d3] at q; cases q⟩
    · rw [q]; exact ⟨o4, e4, fun v q => by rw [d4] at q; cases q⟩
  keep := fun i h h' st k => by
    obtain ⟨hz, hTI, ⟨y1, y2, y3, y4, hTO⟩, h1, h2, h3, h4⟩ := st
    exact ⟨k z (by simp) _ hz, k TI (by simp) _ hTI, ⟨y1, y2, y3, y4, k TO (by simp) _ hTO⟩, h1.at fun o q => k i1 (by simp) o q, h2.at fun o q => k i2 (by simp) o q, h3.at fun o q => k i3 (by simp) o q, h4.at fun o q => k i4 (by simp) o q⟩
  item := by
    intro X hP hw hK hc i pins s σ H E I hf st hg
    subst hP hw hK
    obtain ⟨hz, hTI, ⟨y1, y2, y3, y4, hTO⟩, h1, h2, h3, h4⟩ := st
    obtain ⟨ys1, ys2, ys3, ys4, x1, x2, x3, x4, hq1, hq2, hq3, hq4, hx1, hx2, hx3, hx4⟩ := hg
    obtain ⟨t1, rv1, p1, _⟩ := I.list hq1
    obtain ⟨t2, rv2, p2, _⟩ := I.list hq2
    obtain ⟨t3, rv3, p3, _⟩ := I.list hq3
    obtain ⟨t4, rv4, p4, _⟩ := I.list hq4
    obtain ⟨u1, hu1, ru1⟩ := rv1.get hx1
    obtain ⟨u2, hu2, ru2⟩ := rv2.get hx2
    obtain ⟨u3, hu3, ru3⟩ := rv3.get hx3
    obtain ⟨u4, hu4, ru4⟩ := rv4.get hx4
    have hzl : z < s.heap.objs.size := Heap.lt_size hz
    refine next_zip4_item D hz hTI hTO h1 h2 h3 h4 p1.isList p2.isList p3.isList p4.isList (x1 := u1) (x2 := u2) (x3 := u3) (x4 := u4) (by simpa using hu1) (by simpa using hu2) (by simpa using hu3) (by simpa using hu4) fun h' z' TO' h1' h2' h3' h4' hT hsz hk => ?_
    refine ⟨_, rfl, wpAny_letOwnedTupleGo_zip (s := { s with heap := h' }) z' fun h'' z'' sb => ?_⟩
    have hT2 : h''.get? s.heap.objs.size = some { cls := .type "tuple", data := .seq #[u1, u2, u3, u4] } := (sb.2 _ (Nat.ne_of_gt hzl)).trans hT
    have new : ObjOk X.prog X.w (upd H s.heap.objs.size (.tup [x1, x2, x3, x4])) h'' s.heap.objs.size (.tup [x1, x2, x3, x4]) := ⟨by show 4 ≤ sizeLine; decide, [u1, u2, u3, u4], (.cons ru1 (.cons ru2 (.cons ru3 (.cons ru4 .nil)))), ⟨_, hT2, rfl, _, rfl⟩⟩
    have I1 : Inv X pins σ (upd H s.heap.objs.size (.tup [x1, x2, x3, x4])) { s with heap := h'' } := I.turnedNew (t' := s.toks) (ch := [z, TI, TO, i1, i2, i3, i4]) (fun c o hb q => (sb.2 c (fun q' => hb (by simp [q']))).trans (hk c o (fun q' => hb (by simp [q'])) (fun q' => hb (by simp [q'])) (fun q' => hb (by simp [q'])) (fun q' => hb (by simp [q'])) (fun q' => hb (by simp [q'])) (fun q' => hb (by simp [q'])) q)) hf (Nat.le_refl _) new
    refine ⟨.ref s.heap.objs.size, _, I1, rfl, ⟨_, x1, x2, x3, x4, rfl, I.hok.fresh (Nat.le_refl _), rfl, fun l hl => by rw [I.list_inj hl hq1]; exact hx1, fun l hl => by rw [I.list_inj hl hq2]; exact hx2, fun l hl => by rw [I.list_inj hl hq3]; exact hx3, fun l hl => by rw [I.list_inj hl hq4]; exact hx4⟩, ⟨z'', ?_, ⟨u1, u2, u3, u4, ?_⟩, ?_, ?_, ?_, ?_⟩, fun c hcm => ?_⟩
    · exact (sb.2 _ D.TI_z).trans (hk _ _ D.TI_z D.TI_TO D.TI_i1 D.TI_i2 D.TI_i3 D.TI_i4 hTI)
    · exact (sb.2 _ D.TO_z).trans TO'
    · exact h1'.at fun o q => (sb.2 _ D.i1_z).trans q
    · exact h2'.at fun o q => (sb.2 _ D.i2_z).trans q
    · exact h3'.at fun o q => (sb.2 _ D.i3_z).trans q
    · exact h4'.at fun o q => (sb.2 _ D.i4_z).trans q
    · have hlt : c < s.heap.objs.size := by
        have e' : c = z ∨ c = TI ∨ c = TO ∨ c = i1 ∨ c = i2 ∨ c = i3 ∨ c = i4 := by simpa using hcm
        rcases e' with q | q | q | q | q | q | q
        · rw [q]; exact hzl
        · rw [q]; exact Heap.lt_size hTI
        · rw [q]; exact Heap.lt_size hTO
        · rw [q]; obtain ⟨_, e1, _⟩ := h1; exact Heap.lt_size e1
        · rw [q]; obtain ⟨_, e1, _⟩ := h2; exact Heap.lt_size e1
        · rw [q]; obtain ⟨_, e1, _⟩ := h3; exact Heap.lt_size e1
        · rw [q]; obtain ⟨_, e1, _⟩ := h4; exact Heap.lt_size e1
      rw [upd_ne (Nat.ne_of_lt hlt)]
      exact (hf c hcm).1
  done := by
    intro X hP hw hK hc i pins s σ H E I hf st hg
    subst hP hw hK
    obtain ⟨hz, hTI, ⟨y1, y2, y3, y4, hTO⟩, h1, h2, h3, h4⟩ := st
    obtain ⟨ys1, ys2, ys3, ys4, hq1, hq2, hq3, hq4, hend⟩ := hg
    obtain ⟨t1, rv1, p1, _⟩ := I.list hq1
    have n1 := rv1.length
    obtain ⟨t2, rv2, p2, _⟩ := I.list hq2
    have n2 := rv2.length
    obtain ⟨t3, rv3, p3, _⟩ := I.list hq3
    have n3 := rv3.length
    obtain ⟨t4, rv4, p4, _⟩ := I.list hq4
    have n4 := rv4.length
    have he : t1.toArray[i]? = none ∨ t2.toArray[i]? = none ∨ t3.toArray[i]? = none ∨ t4.toArray[i]? = none := by
      rcases hend with q | q | q | q
      · exact .inl (by simp; omega)
      · exact .inr (.inl (by simp; omega))
      · exact .inr (.inr (.inl (by simp; omega)))
      · exact .inr (.inr (.inr ((by simp; omega))))
    exact next_zip4_end (I.ok.hd hc) D hz hTI hTO h1 h2 h3 h4 p1.isList p2.isList p3.isList p4.isList he fun h' hk => ⟨rfl, I.turnedL (t' := s.toks) (ch := [z, TI, TO, i1, i2, i3, i4]) (fun c o hb q => hk c o (fun q' => hb (by simp [q'])) (fun q' => hb (by simp [q'])) (fun q' => hb (by simp [q'])) (fun q' => hb (by simp [q'])) (fun q' => hb (by simp [q'])) (fun q' => hb (by simp [q'])) q) hf⟩
  self := fun A i s Q E st h => wpAny_pyIter_zip st.1 h
def iZip4 (K : PySem.W.Frag) (ta : TA) : TI := fun σ H R => ta σ H fun vs H1 => ∃ l1 l2 l3 l4 ys1 ys2 ys3 ys4, vs = [.ref l1, .ref l2, .ref l3, .ref l4] ∧ SqL K H1 l1 ys1 ∧ SqL K H1 l2 ys2 ∧ SqL K H1 l3 ys3 ∧ SqL K H1 l4 ys4 ∧ R (Itz4 K l1 l2 l3 l4) H1
theorem pi_zip4 {X : Cx} {e1 e2 e3 e4 : Expr} {ta : TA} {p pos tpos : Pos} {elts : List Expr} {kk : Nat} (hg : Gl X "zip") (hm : X.mg "zip" = none) (ha : PA X [e1, e2, e3, e4] ta)
    (hs : starEach [e1, e2, e3, e4] X.env = (false, eval e1 X.env) :: starEach [e2, e3, e4] X.env := by rfl) (hpl : (backTo pos (starEach [e2, e3, e4] X.env)).any (·.1) = false := by rfl) :
    PI X (.Tuple elts kk tpos) (.Call (.Name "zip" p) [e1, e2, e3, e4] [] pos) (iZip4 X.K ta) := by
  refine ⟨fun pins s σ H R I h => ?_⟩
  refine Call_ (ld_blt I hg hm PyProof.Rows.boot_zip (PyProof.Rows.callWith_type1 (thn (ha.run pos pins s σ H _ I h) fun us s1 ⟨vs, H1, I1, r1, q1⟩ => ?_) hs hpl))
  obtain ⟨l1, l2, l3, l4, ys1, ys2, ys3, ys4, ex, hq1, hq2, hq3, hq4, q⟩ := q1
  subst ex
  cases r1 with
  | cons k1 r1' =>
    cases r1' with
    | cons k2 r2' =>
      cases r2' with
      | cons k3 r3' =>
        cases r3' with
        | cons k4 r4' =>
          cases r4'
          cases k1
          cases k2
          cases k3
          cases k4
          obtain ⟨t1, rv1, p1, _⟩ := I1.list hq1
          obtain ⟨t2, rv2, p2, _⟩ := I1.list hq2
          obtain ⟨t3, rv3, p3, _⟩ := I1.list hq3
          obtain ⟨t4, rv4, p4, _⟩ := I1.list hq4
          refine call_zip4 p1.isList p2.isList p3.isList p4.isList fun h' hz hTI hTO h1 h2 h3 h4 hsz hk => wpAny_pyIter_zip hz ?_
          have I2 : Inv X pins σ H1 { s1 with heap := h' } := I1.kept (t' := s1.toks) hk
          refine ⟨s1.heap.objs.size + 6, [s1.heap.objs.size + 6, s1.heap.objs.size + 4, s1.heap.objs.size + 5, s1.heap.objs.size, s1.heap.objs.size + 1, s1.heap.objs.size + 2, s1.heap.objs.size + 3], _, _, H1, rfl, I2, turn_zip4 (za4_of s1.heap.objs.size l1 l2 l3 l4 p1.lt p2.lt p3.lt p4.lt), ⟨hz, hTI, ⟨_, _, _, _, hTO⟩, h1, h2, h3, h4⟩, fun c hcm => ?_, q⟩
          have e' : c = s1.heap.objs.size + 6 ∨ c = s1.heap.objs.size + 4 ∨ c = s1.heap.objs.size + 5 ∨ c = s1.heap.objs.size ∨ c = s1.heap.objs.size + 1 ∨ c = s1.heap.objs.size + 2 ∨ c = s1.heap.objs.size + 3 := by simpa using hcm
          have hle : s1.heap.objs.size ≤ c := by rcases e' with q | q | q | q | q | q | q <;> (rw [q]; first | exact Nat.le_refl _ | exact Nat.le_add_right _ _)
          exact I1.fpOk hle (I1.hok.fresh hle)
end DL
namespace DL
open PySem PySem.Spec L2
def zipD3 : List PyData → List PyData → List PyData → List PyData
  | x1 :: r1, x2 :: r2, x3 :: r3 => .tuple [x1, x2, x3] :: zipD3 r1 r2 r3
  | _, _, _ => []
theorem zipD3_len : ∀ ds1 ds2 ds3 : List PyData, (zipD3 ds1 ds2 ds3).length = min ds1.length (min ds2.length (ds3.length))
  | x1 :: r1, x2 :: r2, x3 :: r3 => by
    show (zipD3 r1 r2 r3).length + 1 = min (r1.length + 1) (min (r2.length + 1) ((r3.length + 1)))
    rw [zipD3_len r1 r2 r3]
    omega
  | [], _, _ => by unfold zipD3; simp
  | _ :: _, [], _ => by unfold zipD3; simp
  | _ :: _, _ :: _, [] => by unfold zipD3; simp
theorem zipD3_get : ∀ {ds1 ds2 ds3 : List PyData} {i : Nat} {x1 x2 x3 : PyData}, ds1[i]? = some x1 → ds2[i]? = some x2 → ds3[i]? = some x3 → (zipD3 ds1 ds2 ds3)[i]? = some (.tuple [x1, x2, x3])
  | [], _, _, _, _, _, _, h, _, _ => by simp at h
  | _ :: _, [], _, _, _, _, _, _, h, _ => by simp at h
  | _ :: _, _ :: _, [], _, _, _, _, _, _, h => by simp at h
  | x1 :: r1, x2 :: r2, x3 :: r3, 0, _, _, _, h1, h2, h3 => by
    simp at h1 h2 h3
    subst h1 h2 h3
    rfl
  | x1 :: r1, x2 :: r2, x3 :: r3, i + 1, _, _, _, h1, h2, h3 => by
    show (zipD3 r1 r2 r3)[i]? = _
    exact zipD3_get (by simpa using h1) (by simpa using h2) (by simpa using h3)
theorem zip_map3 {α : Type} {ts : List α} {f1 f2 f3 : α → PyData} : zipD3 (ts.map f1) (ts.map f2) (ts.map f3) = ts.map fun t => .tuple [f1 t, f2 t, f3 t] := by
  induction ts with
  | nil => rfl
  | cons t r ih =>
    show PyData.tuple [f1 t, f2 t, f3 t] :: zipD3 (r.map f1) (r.map f2) (r.map f3) = _
    rw [ih]
    rfl
theorem walks_zip3 {K : Fg} {Hs : Hp} {l1 l2 l3 : Addr} {xs1 xs2 xs3 : List V} {ds1 ds2 ds3 : List PyData} (hs1 : SqL K Hs l1 xs1) (ha1 : DpAll K Hs xs1 ds1) (hs2 : SqL K Hs l2 xs2) (ha2 : DpAll K Hs xs2 ds2) (hs3 : SqL K Hs l3 xs3) (ha3 : DpAll K Hs xs3 ds3) : Walks K (Itz3 K l1 l2 l3) Hs (zipD3 ds1 ds2 ds3) := fun Z Hs2 H σ δ s R => by
  have q1 : SqL K H l1 xs1 := (s.trans R.sub).seq hs1
  have n1 := ha1.len
  have q2 : SqL K H l2 xs2 := (s.trans R.sub).seq hs2
  have n2 := ha2.len
  have q3 : SqL K H l3 xs3 := (s.trans R.sub).seq hs3
  have n3 := ha3.len
  rw [zipD3_len]
  refine ⟨fun i hi => ?_, ⟨xs1, xs2, xs3, q1, q2, q3, by omega⟩, fun i x H' hi y => ?_⟩
  · have h1 : i < xs1.length := by omega
    have h2 : i < xs2.length := by omega
    have h3 : i < xs3.length := by omega
    exact ⟨xs1, xs2, xs3, xs1[i], xs2[i], xs3[i], q1, q2, q3, by simp [h1], by simp [h2], by simp [h3]⟩
  · obtain ⟨T, x1, x2, x3, rfl, nT, rfl, f1, f2, f3⟩ := y
    obtain ⟨d1, e1, g1⟩ := ha1.getV (f1 xs1 q1)
    obtain ⟨d2, e2, g2⟩ := ha2.getV (f2 xs2 q2)
    obtain ⟨d3, e3, g3⟩ := ha3.getV (f3 xs3 q3)
    have s2 : Same Hs2 (upd Hs2 T (.tup [x1, x2, x3])) := same_new (R.hsn nT)
    exact ⟨_, _, zipD3_get e1 e2 e3, s2, R.alloc nT, .tup (SqT.of upd_same) (.cons ((g1.up s).up s2) (.cons ((g2.up s).up s2) (.cons ((g3.up s).up s2) .nil)))⟩
section
variable {X : Cx} {Z : Ent} {pos : Pos}
def iZp3 (t : DL') : DL' := fun δ Q => t δ fun ds δ' => match ds with
  | [.list xs1, .list xs2, .list xs3] => Q (zipD3 xs1 xs2 xs3) δ'
  | _ => False
theorem di_zip3 {e1 e2 e3 : Expr} {t : DL'} {p tpos : Pos} {elts : List Expr} {kk : Nat} (hg : Gl X "zip") (hm : X.mg "zip" = none) (ha : Da X Z [e1, e2, e3] t)
    (hs : starEach [e1, e2, e3] X.env = (false, eval e1 X.env) :: starEach [e2, e3] X.env := by rfl) (hpl : (backTo pos (starEach [e2, e3] X.env)).any (·.1) = false := by rfl) :
    Dit X Z (.Tuple elts kk tpos) (.Call (.Name "zip" p) [e1, e2, e3] [] pos) (iZp3 t) := by
  refine ⟨pi_imp (pi_zip3 hg hm ha.run hs hpl) fun σ H Q ⟨Hs, δ, R, q⟩ => ⟨Hs, δ, R, ha.mono _ _ _ (fun ds δ' q vs Hs' H' s R' dps => ?_) q⟩, fun δ Q Q' hq q => ha.mono _ _ _ (fun ds δ' z => ?_) q⟩
  · split at q
    · cases dps with
      | cons k1 t1 =>
        cases t1 with
        | cons k2 t2 =>
          cases t2 with
          | cons k3 t3 =>
            cases t3
            cases k1 with
            | lst s1 a1 =>
              cases k2 with
              | lst s2 a2 =>
                cases k3 with
                | lst s3 a3 =>
                  exact ⟨_, _, _, _, _, _, rfl, R'.sub.seq s1, R'.sub.seq s2, R'.sub.seq s3, q _ Hs' H' s R' (walks_zip3 s1 a1 s2 a2 s3 a3)⟩
    · exact q.elim
  · split at z
    · exact hq _ _ z
    · exact z
instance {l : DL'} [LMono l] : LMono (iZp3 l) := ⟨fun δ Q Q' hq q => by
  refine LMono.m (t := l) _ _ _ (fun ds δ' z => ?_) q
  split at z
  · exact hq _ _ z
  · exact z⟩
end
def zipD4 : List PyData → List PyData → List PyData → List PyData → List PyData
  | x1 :: r1, x2 :: r2, x3 :: r3, x4 :: r4 => .tuple [x1, x2, x3, x4] :: zipD4 r1 r2 r3 r4
  | _, _, _, _ => []
theorem zipD4_len : ∀ ds1 ds2 ds3 ds4 : List PyData, (zipD4 ds1 ds2 ds3 ds4).length = min ds1.length (min ds2.length (min ds3.length (ds4.length)))
  | x1 :: r1, x2 :: r2, x3 :: r3, x4 :: r4 => by
    show (zipD4 r1 r2 r3 r4).length + 1 = min (r1.length + 1) (min (r2.length + 1) (min (r3.length + 1) ((r4.length + 1))))
    rw [zipD4_len r1 r2 r3 r4]
    omega
  | [], _, _, _ => by unfold zipD4; simp
  | _ :: _, [], _, _ => by unfold zipD4; simp
  | _ :: _, _ :: _, [], _ => by unfold zipD4; simp
  | _ :: _, _ :: _, _ :: _, [] => by unfold zipD4; simp
theorem zipD4_get : ∀ {ds1 ds2 ds3 ds4 : List PyData} {i : Nat} {x1 x2 x3 x4 : PyData}, ds1[i]? = some x1 → ds2[i]? = some x2 → ds3[i]? = some x3 → ds4[i]? = some x4 → (zipD4 ds1 ds2 ds3 ds4)[i]? = some (.tuple [x1, x2, x3, x4])
  | [], _, _, _, _, _, _, _, _, h, _, _, _ => by simp at h
  | _ :: _, [], _, _, _, _, _, _, _, _, h, _, _ => by simp at h
  | _ :: _, _ :: _, [], _, _, _, _, _, _, _, _, h, _ => by simp at h
  | _ :: _, _ :: _, _ :: _, [], _, _, _, _, _, _, _, _, h => by simp at h
  | x1 :: r1, x2 :: r2, x3 :: r3, x4 :: r4, 0, _, _, _, _, h1, h2, h3, h4 => by
    simp at h1 h2 h3 h4
    subst h1 h2 h3 h4
    rfl
  | x1 :: r1, x2 :: r2, x3 :: r3, x4 :: r4, i + 1, _, _, _, _, h1, h2, h3, h4 => by
    show (zipD4 r1 r2 r3 r4)[i]? = _
    exact zipD4_get (by simpa using h1) (by simpa using h2) (by simpa using h3) (by simpa using h4)
theorem zip_map4 {α : Type} {ts : List α} {f1 f2 f3 f4 : α → PyData} : zipD4 (ts.map f1) (ts.map f2) (ts.map f3) (ts.map f4) = ts.map fun t => .tuple [f1 t, f2 t, f3 t, f4 t] := by
  induction ts with
  | nil => rfl
  | cons t r ih =>
    show PyData.tuple [f1 t, f2 t, f3 t, f4 t] :: zipD4 (r.map f1) (r.map f2) (r.map f3) (r.map f4) = _
    rw [ih]
    rfl
theorem walks_zip4 {K : Fg} {Hs : Hp} {l1 l2 l3 l4 : Addr} {xs1 xs2 xs3 xs4 : List V} {ds1 ds2 ds3 ds4 : List PyData} (hs1 : SqL K Hs l1 xs1) (ha1 : DpAll K Hs xs1 ds1) (hs2 : SqL K Hs l2 xs2) (ha2 : DpAll K Hs xs2 ds2) (hs3 : SqL K Hs l3 xs3) (ha3 : DpAll K Hs xs3 ds3) (hs4 : SqL K Hs l4 xs4) (ha4 : DpAll K Hs xs4 ds4) : Walks K (Itz4 K l1 l2 l3 l4) Hs (zipD4 ds1 ds2 ds3 ds4) := fun Z Hs2 H σ δ s R => by
  have q1 : SqL K H l1 xs1 := (s.trans R.sub).seq hs1
  have n1 := ha1.len
  have q2 : SqL K H l2 xs2 := (s.trans R.sub).seq hs2
  have n2 := ha2.len
  have q3 : SqL K H l3 xs3 := (s.trans R.sub).seq hs3
  have n3 := ha3.len
  have q4 : SqL K H l4 xs4 := (s.trans R.sub).seq hs4
  have n4 := ha4.len
  rw [zipD4_len]
  refine ⟨fun i hi => ?_, ⟨xs1, xs2, xs3, xs4, q1, q2, q3, q4, by omega⟩, fun i x H' hi y => ?_⟩
  · have h1 : i < xs1.length := by omega
    have h2 : i < xs2.length := by omega
    have h3 : i < xs3.length := by omega
    have h4 : i < xs4.length := by omega
    exact ⟨xs1, xs2, xs3, xs4, xs1[i], xs2[i], xs3[i], xs4[i], q1, q2, q3, q4, by simp [h1], by simp [h2], by simp [h3], by simp [h4]⟩
  · obtain ⟨T, x1, x2, x3, x4, rfl, nT, rfl, f1, f2, f3, f4⟩ := y
    obtain ⟨d1, e1, g1⟩ := ha1.getV (f1 xs1 q1)
    obtain ⟨d2, e2, g2⟩ := ha2.getV (f2 xs2 q2)
    obtain ⟨d3, e3, g3⟩ := ha3.getV (f3 xs3 q3)
    obtain ⟨d4, e4, g4⟩ := ha4.getV (f4 xs4 q4)
    have s2 : Same Hs2 (upd Hs2 T (.tup [x1, x2, x3, x4])) := same_new (R.hsn nT)
    exact ⟨_, _, zipD4_get e1 e2 e3 e4, s2, R.alloc nT, .tup (SqT.of upd_same) (.cons ((g1.up s).up s2) (.cons ((g2.up s).up s2) (.cons ((g3.up s).up s2) (.cons ((g4.up s).up s2) .nil))))⟩
section
variable {X : Cx} {Z : Ent} {pos : Pos}
def iZp4 (t : DL') : DL' := fun δ Q => t δ fun ds δ' => match ds with
  | [.list xs1, .list xs2, .list xs3, .list xs4] => Q (zipD4 xs1 xs2 xs3 xs4) δ'
  | _ => False
theorem di_zip4 {e1 e2 e3 e4 : Expr} {t : DL'} {p tpos : Pos} {elts : List Expr} {kk : Nat} (hg : Gl X "zip") (hm : X.mg "zip" = none) (ha : Da X Z [e1, e2, e3, e4] t)
    (hs : starEach [e1, e2, e3, e4] X.env = (false, eval e1 X.env) :: starEach [e2, e3, e4] X.env := by rfl) (hpl : (backTo pos (starEach [e2, e3, e4] X.env)).any (·.1) = false := by rfl) :
    Dit X Z (.Tuple elts kk tpos) (.Call (.Name "zip" p) [e1, e2, e3, e4] [] pos) (iZp4 t) := by
  refine ⟨pi_imp (pi_zip4 hg hm ha.run hs hpl) fun σ H Q ⟨Hs, δ, R, q⟩ => ⟨Hs, δ, R, ha.mono _ _ _ (fun ds δ' q vs Hs' H' s R' dps => ?_) q⟩, fun δ Q Q' hq q => ha.mono _ _ _ (fun ds δ' z => ?_) q⟩
  · split at q
    · cases dps with
      | cons k1 t1 =>
        cases t1 with
        | cons k2 t2 =>
          cases t2 with
          | cons k3 t3 =>
            cases t3 with
            | cons k4 t4 =>
              cases t4
              cases k1 with
              | lst s1 a1 =>
                cases k2 with
                | lst s2 a2 =>
                  cases k3 with
                  | lst s3 a3 =>
                    cases k4 with
                    | lst s4 a4 =>
                      exact ⟨_, _, _, _, _, _, _, _, rfl, R'.sub.seq s1, R'.sub.seq s2, R'.sub.seq s3, R'.sub.seq s4, q _ Hs' H' s R' (walks_zip4 s1 a1 s2 a2 s3 a3 s4 a4)⟩
    · exact q.elim
  · split at z
    · exact hq _ _ z
    · exact z
instance {l : DL'} [LMono l] : LMono (iZp4 l) := ⟨fun δ Q Q' hq q => by
  refine LMono.m (t := l) _ _ _ (fun ds δ' z => ?_) q
  split at z
  · exact hq _ _ z
  · exact z⟩
end
end DL

/-! more rules: min of three, ranges with a step, list(range), stores to slices, displays times an int, keywords in any order -/
namespace DL
open PySem PySem.Spec PyProof.Rows L2 DM
section
variable {X : Cx} {Z : Ent} {pos : Pos} {tg : Expr}
/-! ### min of three -/
theorem call_min3 (hc : X.calm = true) : CallR X (.builtin "min") (fun xs H Q => ∃ i j k, xs = [.int i, .int j, .int k] ∧ Q (.int (min (min i j) k)) H) := by
  intro pins s σ H xs us Q I r h
  obtain ⟨i, j, k, rfl, q⟩ := h
  cases r with
  | cons r1 r =>
    cases r with
    | cons r2 r =>
      cases r with
      | cons r3 r =>
        cases r
        obtain ⟨t1, rfl⟩ := r1
        obtain ⟨t2, rfl⟩ := r2
        obtain ⟨t3, rfl⟩ := r3
        refine min_three_ints (I.ok.hd hc) fun h' tk kk => ⟨_, H, I.kept kk, ?_, q⟩
        by_cases h1 : j < i
        · rw [if_pos h1]
          by_cases h2 : k < j
          · rw [if_pos h2, show min (min i j) k = k by omega]
            exact ⟨_, rfl⟩
          · rw [if_neg h2, show min (min i j) k = j by omega]
            exact ⟨_, rfl⟩
        · rw [if_neg h1]
          by_cases h2 : k < i
          · rw [if_pos h2, show min (min i j) k = k by omega]
            exact ⟨_, rfl⟩
          · rw [if_neg h2, show min (min i j) k = i by omega]
            exact ⟨_, rfl⟩
def rMin3 : D1 := fun ds Q => match ds with
  | [.int i, .int j, .int k] => Q (.int (min (min i j) k))
  | _ => False
theorem min3_i {i j k : Int} {Q : PyData → Prop} : rMin3 [.int i, .int j, .int k] Q = Q (.int (min (min i j) k)) := rfl
theorem cd_min3 (hc : X.calm = true) : ClD X Z (.builtin "min") rMin3 := by
  refine ⟨⟨_, call_min3 hc, fun ds vs Hs H σ δ Q R dps q => ?_⟩, fun ds Q Q' hq q => ?_⟩
  · unfold rMin3 at q
    split at q
    · cases dps with
      | cons d1 d2 =>
        cases d1
        cases d2 with
        | cons d2 d3 =>
          cases d2
          cases d3 with
          | cons d3 d4 =>
            cases d3
            cases d4
            exact ⟨_, _, _, rfl, q _ Hs H (Same.refl _) R (.int _)⟩
    · exact q.elim
  · unfold rMin3 at q ⊢
    split at q
    · exact hq _ q
    · exact q
instance : D1M rMin3 := ⟨fun ds Q Q' hq q => by
  unfold rMin3 at q ⊢
  split at q
  · exact hq _ q
  · exact q⟩
/-! ### range(a, b, -1) -/
def dnD (hi : Int) : Nat → List PyData
  | 0 => []
  | n + 1 => .int hi :: dnD (hi - 1) n
theorem dnD_len (hi : Int) (n : Nat) : (dnD hi n).length = n := by
  induction n generalizing hi with
  | zero => rfl
  | succ n ih => show (dnD (hi - 1) n).length + 1 = _; rw [ih]
theorem dnD_get {hi : Int} {n i : Nat} (h : i < n) : (dnD hi n)[i]? = some (.int (hi - i)) := by
  induction n generalizing hi i with
  | zero => omega
  | succ n ih =>
    cases i with
    | zero => show some (PyData.int hi) = _; rw [show hi - ((0 : Nat) : Int) = hi by omega]
    | succ i =>
      show (dnD (hi - 1) n)[i]? = _
      rw [ih (by omega), show hi - 1 - (i : Int) = hi - ((i + 1 : Nat) : Int) by omega]
theorem walks_down {K : Fg} {Hs : Hp} {hi : Int} {n : Nat} : Walks K (Itc hi (-1) n) Hs (dnD hi n) := fun Z Hs2 H σ δ s R => by
  rw [dnD_len]
  refine ⟨fun i h => h, Nat.le_refl _, fun i x H' hi' y => ?_⟩
  obtain ⟨rfl, rfl⟩ := y
  refine ⟨_, Hs2, dnD_get hi', Same.refl _, R, ?_⟩
  rw [show hi + ((i : Nat) : Int) * (-1) = hi - (i : Int) by omega]
  exact .int _
def iRgD (t : DL') : DL' := fun δ Q => t δ fun ds δ' => match ds with
  | [.int i, .int j, .int c] => c = -1 ∧ (-(2 ^ 62) ≤ i ∧ i < 2 ^ 62) ∧ (-(2 ^ 62) ≤ j ∧ j < 2 ^ 62) ∧ Q (dnD i (i - j).toNat) δ'
  | _ => False
theorem di_rangeD {a b c : Expr} {t : DL'} {p : Pos} (hg : Gl X "range") (hm : X.mg "range" = none) (ha : Da X Z [a, b, c] t)
    (hs : starEach [a, b, c] X.env = (false, eval a X.env) :: starEach [b, c] X.env := by rfl) (hpl : (backTo pos (starEach [b, c] X.env)).any (·.1) = false := by rfl) : Dit X Z tg (.Call (.Name "range" p) [a, b, c] [] pos) (iRgD t) := by
  refine ⟨pi_imp (pi_range3 hg hm ha.run hs hpl) fun σ H Q ⟨Hs, δ, R, q⟩ => ⟨Hs, δ, R, ha.mono _ _ _ (fun ds δ' q vs Hs' H' s R' dps => ?_) q⟩, fun δ Q Q' hq q => ha.mono _ _ _ (fun ds δ' z => ?_) q⟩
  · split at q
    · obtain ⟨rfl, h1, h2, q⟩ := q
      cases dps with
      | cons k1 t1 =>
        cases t1 with
        | cons k2 t2 =>
          cases t2 with
          | cons k3 t3 =>
            cases t3
            cases k1
            cases k2
            cases k3
            exact ⟨_, _, _, _, rfl, RgC.neg h1.1 h1.2 h2.1 h2.2, q _ Hs' H' s R' walks_down⟩
    · exact q.elim
  · split at z
    · exact ⟨z.1, z.2.1, z.2.2.1, hq _ _ z.2.2.2⟩
    · exact z
instance {l : DL'} [LMono l] : LMono (iRgD l) := ⟨fun δ Q Q' hq q => by
  refine LMono.m (t := l) _ _ _ (fun ds δ' z => ?_) q
  split at z
  · exact ⟨z.1, z.2.1, z.2.2.1, hq _ _ z.2.2.2⟩
  · exact z⟩
/-! ### list(range(a, b)) -/
theorem vals_ints_of {f : Nat → Int} : ∀ {us : List Value} {n : Nat}, us.length = n → (∀ j v, us[j]? = some v → ∃ t, v = Value.int (f j) t) → Vals ((List.range n).map fun k => V.int (f k)) us := by
  intro us
  induction us generalizing f with
  | nil =>
    intro n e h
    subst e
    exact .nil
  | cons u r ih =>
    intro n e h
    subst e
    rw [List.length_cons, List.range_succ_eq_map, List.map_cons, List.map_map]
    obtain ⟨t, rfl⟩ := h 0 u rfl
    refine .cons ⟨t, rfl⟩ ?_
    exact ih (f := fun k => f (k + 1)) rfl fun j v e => h (j + 1) v (by simpa using e)
theorem call_list_rng (hc : X.calm = true) : CallR X (.type "list") (fun xs H Q => ∃ r i j, xs = [.ref r] ∧ H r = some (.rng i j) ∧ (-(2 ^ 62) ≤ i ∧ i < 2 ^ 62 ∧ -(2 ^ 62) ≤ j ∧ j < 2 ^ 62) ∧ (j - i).toNat ≤ sizeLine ∧
    ∀ l, H l = none → Q (.ref l) (upd H l (.lst ((List.range (j - i).toNat).map fun k => V.int (i + (k : Nat)))))) := by
  intro pins s σ H xs us Q I r h
  obtain ⟨a, i, j, rfl, hr, ⟨h1, h2, h3, h4⟩, hz, q⟩ := h
  obtain ⟨u, rfl, rx⟩ := vals1 r
  cases rx
  obtain ⟨t1, t2, t3, ho⟩ := I.hok a _ hr
  refine call_list_range (n := (j - i).toNat) (I.ok.hd hc) ho (small_one h1 h2 h3 h4) (PyProof.Rows.rangeSize_nat i j) (by rw [sizeLine_eq] at hz; omega) fun h' tk acc c' kp e ha => ?_
  refine ⟨.ref s.heap.objs.size, _, I.laid (t' := tk) kp (Nat.le_refl _) (show ObjOk X.prog X.w _ h' _ (.lst ((List.range (j - i).toNat).map fun k => V.int (i + (k : Nat)))) from ⟨by rw [List.length_map, List.length_range]; exact hz, acc.toList, c', ?_, by simpa using e⟩), rfl, q _ (I.hok.fresh (Nat.le_refl _))⟩
  exact vals_ints_of (f := fun k => i + (k : Nat)) (by simp [ha.1]) fun m v e => by
    obtain ⟨t, rfl⟩ := ha.2 m v (by simpa using e)
    exact ⟨t, by simp⟩
theorem pe_listR {a b : Expr} {ta : TA} {p1 p2 pos' : Pos} (hc : X.calm = true) (hg : Gl X "list") (hm : X.mg "list" = none) (hg2 : Gl X "range") (hm2 : X.mg "range" = none) (ha : PA X [a, b] ta)
    (he : starEach [.Call (.Name "range" p2) [a, b] [] pos'] X.env = (false, eval (.Call (.Name "range" p2) [a, b] [] pos') X.env) :: starEach [] X.env := by rfl) (hpl : (backTo pos (starEach [] X.env)).any (·.1) = false := by rfl)
    (hs : starEach [a, b] X.env = (false, eval a X.env) :: starEach [b] X.env := by rfl) (hpl2 : (backTo pos' (starEach [b] X.env)).any (·.1) = false := by rfl) :
    PE X (.Call (.Name "list" p1) [.Call (.Name "range" p2) [a, b] [] pos'] [] pos) (tCB (fun xs H Q => ∃ r i j, xs = [.ref r] ∧ H r = some (.rng i j) ∧ (-(2 ^ 62) ≤ i ∧ i < 2 ^ 62 ∧ -(2 ^ 62) ≤ j ∧ j < 2 ^ 62) ∧ (j - i).toNat ≤ sizeLine ∧
    ∀ l, H l = none → Q (.ref l) (upd H l (.lst ((List.range (j - i).toNat).map fun k => V.int (i + (k : Nat)))))) (tCons (tCB (fun vs H Q => ∃ i j, vs = [V.int i, V.int j] ∧ ∀ p, H p = none → Q (.ref p) (upd H p (.rng i j))) ta) tNil)) :=
  pe_callTy (call_list_rng hc) hg hm boot_list (pa_cons (pe_callTy cr_range2 hg2 hm2 boot_range ha (by decide) (by decide) hs hpl2) pa_nil he) (by decide) (by decide) he hpl
theorem rngD_eq (lo : Int) (n : Nat) : rngD lo n = (List.range n).map fun k => PyData.int (lo + (k : Nat)) := by
  apply List.ext_getElem?
  intro i
  by_cases h : i < n
  · rw [rngD_get h, List.getElem?_map, List.getElem?_range h]
    rfl
  · rw [List.getElem?_eq_none (by rw [rngD_len]; omega), List.getElem?_eq_none (by rw [List.length_map, List.length_range]; omega)]
theorem dpa_rng {K : Fg} {H : Hp} (f : Nat → Int) (n : Nat) : DpAll K H ((List.range n).map fun k => V.int (f k)) ((List.range n).map fun k => PyData.int (f k)) := by
  generalize List.range n = l
  induction l with
  | nil => exact .nil
  | cons k r ih => exact .cons (.int _) ih
def dListR (t : DL') : DL' := fun δ Q => t δ fun ds δ' => match ds with
  | [.int i, .int j] => (-(2 ^ 62) ≤ i ∧ i < 2 ^ 62 ∧ -(2 ^ 62) ≤ j ∧ j < 2 ^ 62) ∧ (j - i).toNat ≤ sizeLine ∧ Q (rngD i (j - i).toNat) δ'
  | _ => False
theorem do_listR {a b : Expr} {t : DL'} {p1 p2 pos' : Pos} (hc : X.calm = true) (hg : Gl X "list") (hm : X.mg "list" = none) (hg2 : Gl X "range") (hm2 : X.mg "range" = none) (ha : Da X Z [a, b] t)
    (he : starEach [.Call (.Name "range" p2) [a, b] [] pos'] X.env = (false, eval (.Call (.Name "range" p2) [a, b] [] pos') X.env) :: starEach [] X.env := by rfl) (hpl : (backTo pos (starEach [] X.env)).any (·.1) = false := by rfl)
    (hs : starEach [a, b] X.env = (false, eval a X.env) :: starEach [b] X.env := by rfl) (hpl2 : (backTo pos' (starEach [b] X.env)).any (·.1) = false := by rfl) :
    Do X Z (.Call (.Name "list" p1) [.Call (.Name "range" p2) [a, b] [] pos'] [] pos) (dListR t) := by
  refine ⟨pe_imp (pe_listR hc hg hm hg2 hm2 ha.run he hpl hs hpl2) fun σ H Q ⟨Hs, δ, R, q⟩ => ⟨Hs, δ, R, ha.mono _ _ _ (fun ds δ1 q vs Hs1 H1 s1 R1 dps => ?_) q⟩, fun δ Q Q' hq q => ha.mono _ _ _ (fun ds δ' z => ?_) q⟩
  · split at q
    · obtain ⟨hb, hz, q⟩ := q
      cases dps with
      | cons k1 t1 =>
        cases t1 with
        | cons k2 t2 =>
          cases t2
          cases k1
          cases k2
          refine ⟨_, _, rfl, fun p np => ⟨p, _, _, rfl, upd_same, hb, hz, fun l nl => ?_⟩⟩
          rename_i _ i j
          have s2 : Same Hs1 (upd Hs1 p (.rng i j)) := same_new (R1.hsn np)
          have R2 := R1.alloc (o := .rng i j) np
          refine q _ _ _ (s1.trans s2) (R2.allocO nl) (FrO.new R2 nl ?_)
          rw [rngD_eq]
          exact dpa_rng _ _
    · exact q.elim
  · split at z
    · exact ⟨z.1, z.2.1, hq _ _ z.2.2⟩
    · exact z
instance {l : DL'} [LMono l] : LMono (dListR l) := ⟨fun δ Q Q' hq q => by
  refine LMono.m (t := l) _ _ _ (fun ds δ' z => ?_) q
  split at z
  · exact ⟨z.1, z.2.1, hq _ _ z.2.2⟩
  · exact z⟩
/-! ### a display times an int -/
def dRepE (t : DL') (u : DE) : DE := fun δ Q => t δ fun xs δ1 => u δ1 fun k δ2 => match k with
  | .int k => (-(2 ^ 63) ≤ k ∧ k < 2 ^ 63 ∧ xs.length * k.toNat ≤ sizeLine) ∧ Q (.list (List.replicate k.toNat xs).flatten) δ2
  | _ => False
theorem de_repE {a b : Expr} {t : DL'} {u : DE} (ha : Do X Z a t) (hb : ∀ Z : Ent, De X Z b u) : De X Z (.BinOp a .Mult b pos) (dRepE t u) := by
  have hbE : PE X b (fun σ H Q => ∃ Z : Ent, lE X.K Z u σ H Q) := ⟨fun pins s σ H Q I ⟨Z, q⟩ => (hb Z).run.run pins s σ H Q I q⟩
  refine ⟨pe_imp (pe_op op_rep ha.run hbE) fun σ H Q ⟨Hs, δ, R, q⟩ => ⟨Hs, δ, R, ha.mono _ _ _ (fun xs δ1 q v Hs1 H1 s1 R1 f => ?_) q⟩, fun δ Q Q' hq q => ha.mono _ _ _ (fun _ _ z => (hb Z).mono _ _ _ (fun k δ2 z => ?_) z) q⟩
  · obtain ⟨a, ws, rfl, h1, h2, h3, h0, hG, Rg⟩ := FrO.guard R1 f
    refine ⟨_, Hs1, δ1, Rg, (hb Z).mono _ _ _ (fun k δ2 q v2 Hs2 H2 s2 R2 dk => ?_) q⟩
    obtain ⟨g1, g2, g3⟩ := R2.grd a _ (List.mem_cons_self ..)
    have R3 : Rl X.K Z Hs2 H2 σ δ2 := Rl.unguard0 R2
    split at q
    · cases dk
      rename_i k
      refine ⟨a, k, ws, rfl, rfl, g1, q.1.1, q.1.2.1, by rw [h3.len]; exact q.1.2.2, fun p np => ?_⟩
      have s3 : ∀ ys, Same Hs2 (upd Hs2 p (.lst ys)) := fun _ => same_new (R3.hsn np)
      exact q.2 _ _ _ ((s1.trans s2).trans (s3 _)) (R3.alloc np) (.lst (SqL.of upd_same) ((dpa_flat (h3.up s2) _).up (s3 _)))
    · exact q.elim
  · split at z
    · exact ⟨z.1, hq _ _ z.2⟩
    · exact z
instance {l : DL'} {u : DE} [LMono l] [EMono u] : EMono (dRepE l u) := ⟨fun δ Q Q' hq q => LMono.m (t := l) _ _ _ (fun _ _ z => EMono.m (t := u) _ _ _ (fun k δ2 z => by
  split at z
  · exact ⟨z.1, hq _ _ z.2⟩
  · exact z) z) q⟩
/-! ### xs[::-1] of lists and tuples -/
open HT in
theorem pe_revB {e : Expr} {te : TE} {k} {p1 p2 p3 : Pos} (he : PE X e te) : PE X (.Subscript e (.Slice none none (some (.UnaryOp .USub (.Constant (.int 1) k p1) p2)) p3) pos) (fun σ H Q => te σ H fun x H1 => (∃ a xs, x = .ref a ∧ SqT X.K H1 a xs ∧ ∀ p, H1 p = none → Q (.ref p) (upd H1 p (.tup xs.reverse))) ∨ (∃ a xs, x = .ref a ∧ SqL X.K H1 a xs ∧ ∀ p, H1 p = none → Q (.ref p) (upd H1 p (.lst xs.reverse)))) := by
  refine ⟨fun pins s σ H Q I h => ?_⟩
  refine Subscript_ (thn (he.run pins s σ H _ I h) fun v s1 ⟨x, H1, I1, r1, q1⟩ => ?_)
  rcases q1 with ⟨a, xs, ex, hx, q⟩ | ⟨a, xs, ex, hx, q⟩
  · subst ex
    cases r1
    have hst : PO X (some (.UnaryOp .USub (.Constant (.int 1) k p1) p2)) (tPart (tUn (rU fun i => .int (-i)) (tC (.int 1)))) := po_some (pe_un un_neg pe_int)
    refine wpAny_Slice (thn (po_none.run pins s1 σ H1 (fun o H2 => o = none ∧ H2 = H1) I1 ⟨rfl, rfl⟩) fun vl s2 ⟨l, H2, I2, pl, el, e2⟩ => ?_)
    subst el e2
    refine thn (po_none.run pins s2 σ H2 (fun o H3 => o = none ∧ H3 = H2) I2 ⟨rfl, rfl⟩) fun vu s3 ⟨u, H3, I3, pu, eu, e3⟩ => ?_
    subst eu e3
    refine thn (hst.run pins s3 σ H3 (fun o H4 => o = some (-1) ∧ H4 = H3) I3 ⟨1, rfl, -1, rfl, rfl, rfl⟩) fun vs s4 ⟨o, H4, I4, ps, eo, e4⟩ => ?_
    subst eo e4
    have I5 : Inv X pins σ H4 { s4 with heap := s4.heap.push { cls := .type "slice", data := .fields #[vl, vu, vs] } } := I4.kept (t' := s4.toks) fun b ob q => Heap.get?_push_of_some _ q
    obtain ⟨its, r, ht, hz⟩ := I5.tuple hx
    have hlen : its.toArray.size = xs.length := by rw [List.size_toArray]; exact r.length.symm
    show wpAny (model X.prog X.w) X.A (subscriptTail e (.Slice none none (some (.UnaryOp .USub (.Constant (.int 1) k p1) p2)) p3) (.ref a) (.ref s4.heap.objs.size)) (EP X pins σ Q) X.xe { s4 with heap := s4.heap.push { cls := .type "slice", data := .fields #[vl, vu, vs] } }
    refine tail_any (ops := [.ref a, .ref s4.heap.objs.size]) ht.typeIs (PyProof.Rows.slot_tuple_getitem.lookup) ?_ (by with_unfolding_all rfl)
    refine getItem_rev ht (Heap.IsSliceOf.new _ vl vu vs) pl pu ps ?_ (by rw [hlen]; exact hz)
    refine ⟨.ref _, _, I5.laid (t' := s4.toks) (o := .tup xs.reverse) (fun b ob q => Heap.get?_push_of_some _ q) (Nat.le_refl _) ?_, rfl, q _ (I5.hok.fresh (Nat.le_refl _))⟩
    exact ⟨by rw [List.length_reverse]; exact hz, _, r.reverse, IsTup.new _ _⟩
  · subst ex
    cases r1
    have hst : PO X (some (.UnaryOp .USub (.Constant (.int 1) k p1) p2)) (tPart (tUn (rU fun i => .int (-i)) (tC (.int 1)))) := po_some (pe_un un_neg pe_int)
    refine wpAny_Slice (thn (po_none.run pins s1 σ H1 (fun o H2 => o = none ∧ H2 = H1) I1 ⟨rfl, rfl⟩) fun vl s2 ⟨l, H2, I2, pl, el, e2⟩ => ?_)
    subst el e2
    refine thn (po_none.run pins s2 σ H2 (fun o H3 => o = none ∧ H3 = H2) I2 ⟨rfl, rfl⟩) fun vu s3 ⟨u, H3, I3, pu, eu, e3⟩ => ?_
    subst eu e3
    refine thn (hst.run pins s3 σ H3 (fun o H4 => o = some (-1) ∧ H4 = H3) I3 ⟨1, rfl, -1, rfl, rfl, rfl⟩) fun vs s4 ⟨o, H4, I4, ps, eo, e4⟩ => ?_
    subst eo e4
    have I5 : Inv X pins σ H4 { s4 with heap := s4.heap.push { cls := .type "slice", data := .fields #[vl, vu, vs] } } := I4.kept (t' := s4.toks) fun b ob q => Heap.get?_push_of_some _ q
    obtain ⟨its, r, ht, hz⟩ := I5.list hx
    have hlen : its.toArray.size = xs.length := by rw [List.size_toArray]; exact r.length.symm
    show wpAny (model X.prog X.w) X.A (subscriptTail e (.Slice none none (some (.UnaryOp .USub (.Constant (.int 1) k p1) p2)) p3) (.ref a) (.ref s4.heap.objs.size)) (EP X pins σ Q) X.xe { s4 with heap := s4.heap.push { cls := .type "slice", data := .fields #[vl, vu, vs] } }
    refine tail_any (ops := [.ref a, .ref s4.heap.objs.size]) ht.isList.typeIs (slot_list_getitem.lookup) ?_ (by with_unfolding_all rfl)
    refine wpAny_getItem_list_slice ht.isList (Heap.IsSliceOf.new _ vl vu vs) pl pu ps (by decide) ?_ (by rw [hlen]; exact hz)
    rw [PySem.W.krv_pick]
    refine ⟨.ref _, _, I5.laid (t' := s4.toks) (o := .lst xs.reverse) (fun b ob q => Heap.get?_push_of_some _ q) (Nat.le_refl _) ?_, rfl, q _ (I5.hok.fresh (Nat.le_refl _))⟩
    exact ⟨by rw [List.length_reverse]; exact hz, _, _, r.reverse, Heap.get?_push_size _ rfl⟩
def rRevA (d : PyData) (Q : PyData → Prop) : Prop := match d with
  | .tuple xs => Q (.tuple xs.reverse)
  | .list xs => Q (.list xs.reverse)
  | _ => False
theorem rRevA_mono (d : PyData) (Q Q' : PyData → Prop) (h : ∀ z, Q z → Q' z) (q : rRevA d Q) : rRevA d Q' := by
  cases d <;> first | exact h _ q | exact q
theorem revA_t {xs : List PyData} {Q : PyData → Prop} : rRevA (.tuple xs) Q = Q (.tuple xs.reverse) := rfl
theorem revA_l {xs : List PyData} {Q : PyData → Prop} : rRevA (.list xs) Q = Q (.list xs.reverse) := rfl
def dRevA (t : DE) : DE := fun δ Q => t δ fun d δ' => rRevA d fun z => Q z δ'
theorem de_revA {e : Expr} {t : DE} {k} {p1 p2 p3 : Pos} (he : De X Z e t) : De X Z (.Subscript e (.Slice none none (some (.UnaryOp .USub (.Constant (.int 1) k p1) p2)) p3) pos) (dRevA t) := by
  refine ⟨⟨fun pins s σ H Q I ⟨Hs, δ, R, q⟩ => ?_⟩, fun δ Q Q' hq q => he.mono _ _ _ (fun d δ' z => rRevA_mono _ _ _ (fun _ z => hq _ _ z) z) q⟩
  have hA : PE X e (lE X.K Z t) := he.run
  -- the two kinds are told apart by what e gives
  have both : PE X (.Subscript e (.Slice none none (some (.UnaryOp .USub (.Constant (.int 1) k p1) p2)) p3) pos) (fun σ H Q => lE X.K Z t σ H fun x H1 => (∃ a xs, x = .ref a ∧ SqT X.K H1 a xs ∧ ∀ p, H1 p = none → Q (.ref p) (upd H1 p (.tup xs.reverse))) ∨ (∃ a xs, x = .ref a ∧ SqL X.K H1 a xs ∧ ∀ p, H1 p = none → Q (.ref p) (upd H1 p (.lst xs.reverse)))) := pe_revB hA
  refine both.run pins s σ H Q I ⟨Hs, δ, R, he.mono _ _ _ (fun d δ1 q v Hs1 H1 s1 R1 dp => ?_) q⟩
  cases d with
  | tuple xs =>
    cases dp with
    | tup hs ha =>
      rename_i a vs
      refine .inl ⟨a, vs, rfl, sqt_mono R1.sub hs, fun p np => ?_⟩
      have s4 : Same Hs1 (upd Hs1 p (.tup vs.reverse)) := same_new (R1.hsn np)
      exact q (.ref p) _ _ (s1.trans s4) (R1.alloc np) (.tup (SqT.of upd_same) (dpa_rev (ha.up s4)))
  | list xs =>
    cases dp with
    | lst hs ha =>
      rename_i a vs
      refine .inr ⟨a, vs, rfl, R1.sub.seq hs, fun p np => ?_⟩
      have s4 : Same Hs1 (upd Hs1 p (.lst vs.reverse)) := same_new (R1.hsn np)
      exact q (.ref p) _ _ (s1.trans s4) (R1.alloc np) (.lst (SqL.of upd_same) (dpa_rev (ha.up s4)))
  | _ => exact q.elim
instance {t : DE} [EMono t] : EMono (dRevA t) := ⟨fun δ Q Q' hq q => EMono.m (t := t) _ _ _ (fun d δ' z => rRevA_mono _ _ _ (fun _ z => hq _ _ z) z) q⟩
/-! ### xs[a:b] = a new list of one's own -/
theorem pg_sl {o : Expr} {lo hi : Expr} {to tl th : TE} {p2 : Pos} (ho : PE X o to) (hl : PE X lo tl) (hu : PE X hi th) :
    PG X (.Subscript o (.Slice (some lo) (some hi) none p2) pos) (fun v σ H Q => to σ H fun x H1 => tl σ H1 fun y H2 => th σ H2 fun z H3 => ∃ l b xs ys a c, x = .ref l ∧ v = .ref b ∧ y = .int a ∧ z = .int c ∧ H3 l = some (.lst xs) ∧ H3 b = some (.lst ys) ∧ l ≠ b ∧ 0 ≤ a ∧ a ≤ c ∧ c ≤ xs.length ∧ xs.length + ys.length ≤ sizeLine ∧
      Q σ (upd H3 l (.lst (xs.take a.toNat ++ ys ++ xs.drop c.toNat)))) := by
  refine ⟨fun pins s σ H v u Q I r h => ?_⟩
  show wpAny _ _ (do
      let ov ← holding [u] (eval o X.env)
      let iv ← holding [u, ov] (eval (.Slice (some lo) (some hi) none p2) X.env)
      standAt pos
      holding [u, ov, iv] (setItem ov iv u)
      release [iv, u, ov] []) _ _ _
  refine wpAny_bind (wpAny_holding (thn (ho.run pins s σ H _ I h) fun ov s1 ⟨x, H1, I1, r1, q1⟩ => ?_))
  refine wpAny_bind (wpAny_holding ?_)
  refine wpAny_Slice ?_
  rw [evalPart_some, evalPart_some]
  refine thn (hl.run pins s1 σ H1 _ I1 q1) fun vl s2 ⟨y, H2, I2, r2, q2⟩ => thn (hu.run pins s2 σ H2 _ I2 q2) fun vu s3 ⟨z, H3, I3, r3, q3⟩ => ?_
  rw [evalPart_none]
  refine wpAny_pure ?_
  obtain ⟨l, b, xs, ys, a, c, rfl, rfl, rfl, rfl, hx, hy, ne, h0, h1, h2, h3, q⟩ := q3
  have I4 : Inv X pins σ H3 { s3 with heap := s3.heap.push { cls := .type "slice", data := .fields #[vl, vu, .none] } } := I3.kept (t' := s3.toks) fun b ob q => Heap.get?_push_of_some _ q
  refine wpAny_bind (wpAny_standAt (wpAny_bind (wpAny_holding ?_)))
  cases r1
  cases r
  refine set_slice I4 hx hy ne (Heap.IsSliceOf.new ..) r2 r3 h0 h1 h2 h3 fun s' I5 => ?_
  exact wpAny_release ⟨σ, _, I5, q⟩
def dSetSl (i : Nat) (t : DL') (tl th : DE) : DS := fun N δ => t δ fun ys δ1 => match δ1[i]? with
  | some (some (.ow _ _)) => tl δ1 fun a δ2 => th δ2 fun c δ3 => match a, c, δ3[i]? with
    | .int a, .int c, some (some (.ow p xs)) => (0 ≤ a ∧ a ≤ c ∧ c ≤ xs.length ∧ xs.length + ys.length ≤ sizeLine) ∧ N.nx (δ3.set i (some (.ow p (xs.take a.toNat ++ ys ++ xs.drop c.toNat))))
    | _, _, _ => False
  | _ => False
theorem ds_setsl (i : Nat) {x : Str} {e lo hi : Expr} {t : DL'} {tl th : DE} {p1 p2 p3 : Pos} (he : Do X Z e t) (hl : ∀ Z : Ent, De X Z lo tl) (hu : ∀ Z : Ent, De X Z hi th) (hN : X.N[i]? = some x := by rfl) (hv : Vis X.env.scope x := by first | exact Or.inl rfl | exact Or.inr (Or.inl rfl) | exact Or.inr (Or.inr rfl))
    (hd : (x == ("__debug__" : Str)) = false := by decide) (hcd : (x == ("__classdict__" : Str)) = false := by decide)
    (hs : swapsWithSole [.Subscript (.Name x p1) (.Slice (some lo) (some hi) none p3) p2] e pos.line X.env = pure false := by rfl) (hw : swappedStores [.Subscript (.Name x p1) (.Slice (some lo) (some hi) none p3) p2] e X.env = pure none := by rfl)
    (h1 : (assignEach [.Subscript (.Name x p1) (.Slice (some lo) (some hi) none p3) p2] X.env).map (·.2) = [assign (.Subscript (.Name x p1) (.Slice (some lo) (some hi) none p3) p2) X.env] := by rfl) :
    Ds X Z (.Assign [.Subscript (.Name x p1) (.Slice (some lo) (some hi) none p3) p2] e pos) (dSetSl i t tl th) := by
  have hlE : PE X lo (fun σ H Q => ∃ Z : Ent, lE X.K Z tl σ H Q) := ⟨fun pins s σ H Q I ⟨Z, q⟩ => (hl Z).run.run pins s σ H Q I q⟩
  have huE : PE X hi (fun σ H Q => ∃ Z : Ent, lE X.K Z th σ H Q) := ⟨fun pins s σ H Q I ⟨Z, q⟩ => (hu Z).run.run pins s σ H Q I q⟩
  refine ⟨ps_imp (ps_asg he.run (pg_sl (pe_var hN hv hd hcd) hlE huE) hs hw h1) fun D σ H ⟨Hs, δ, N, R, ok, q⟩ => ⟨Hs, δ, R, he.mono _ _ _ (fun ys δ1 q v Hs1 H1 s1 R1 f => ?_) q⟩⟩
  split at q
  · rename_i p0 xs0 e0
    obtain ⟨l, ws0, hv, _⟩ := R1.own _ _ _ e0
    obtain ⟨b, ws, rfl, f1, f2, f3, h0, hG, Rg⟩ := FrO.guard R1 f
    refine ⟨.ref l, hv, _, Hs1, δ1, Rg, (hl Z).mono _ _ _ (fun a δ2 q va Hs2 H2 s2 R2 da => ⟨_, Hs2, δ2, R2, (hu Z).mono _ _ _ (fun c δ3 q vc Hs3 H3 s3 R3 dc => ?_) q⟩) q⟩
    obtain ⟨g1, g2, g3⟩ := R3.grd b _ (List.mem_cons_self ..)
    have R4 : Rl X.K Z Hs3 H3 σ δ3 := Rl.unguard0 R3
    split at q
    · rename_i a c p xs e1 _
      obtain ⟨⟨h0, h1, h2, h3⟩, q⟩ := q
      cases da
      cases dc
      obtain ⟨l', vs, k1, k2, k3, k4⟩ := R4.own _ _ _ e1
      rw [hv] at k1
      cases k1
      have ne : l ≠ b := fun z => by
        obtain ⟨f3, F3⟩ := R3.fps
        exact F3.g i l _ (by rw [F3.lst e1 hv]; exact List.mem_singleton.mpr rfl) (by rw [z]; exact List.mem_cons_self ..)
      have len1 := k4.len
      have f3' := f3.up (s2.trans s3)
      have len2 := f3'.len
      refine ⟨l, b, vs, ws, a, c, rfl, rfl, rfl, rfl, k2, g1, ne, h0, h1, by omega, by omega, ?_⟩
      exact ok.nx _ _ Hs3 _ ((s1.trans s2).trans s3) (R4.mut e1 hv (((k4.take _).app f3').app (k4.drop _))) q
    · exact q.elim
  · exact q.elim
instance {i : Nat} {t : DL'} {tl th : DE} [LMono t] [EMono tl] [EMono th] : SMono (dSetSl i t tl th) := ⟨fun N N' δ le q => by
  refine LMono.m (t := t) _ _ _ (fun d δ' z => ?_) q
  split at z
  · refine EMono.m (t := tl) _ _ _ (fun e δ2 z => EMono.m (t := th) _ _ _ (fun e δ3 z => ?_) z) z
    split at z
    · exact ⟨z.1, le.nx _ z.2⟩
    · exact z
  · exact z⟩
end
end DL
namespace DL
open PySem PySem.Spec PyProof.Rows L2 DM
section
variable {K : Fg} {x qual : Str} {params : Arguments} {body : List Stmt} {scope : Scope} {kws : List (Str × V)} {f : Addr} {fd : FuncData} {ps : List Str}
/-- keywords in any order -/
theorem kbG (F : FunD K x qual params body scope [] kws f fd) (n : Nat) (ks : List Str) {g : List Value → List Value → List Value} {gV : List V → List V → List V}
    (h : ∀ (kV doc pm : Value) (an : Option Addr) (cdv ct : Value) (us ws : List Value), us.length = n → ws.length = ks.length → bindArgs (PySem.W.fnOf x qual params body scope .none kV doc pm an cdv ct) ⟨us, ks.zip ws⟩ = pure (ps.zip (g us ws)))
    (hV : ∀ {vs zs : List V} {us ws : List Value}, Vals vs us → Vals zs ws → Vals (gV vs zs) (g us ws)) :
    KBn K fd ps n ks g gV := by
  obtain ⟨oc, od, dV, kV, doc, pm, an, cdv, ct, osl, rfl, lk, hcd, hD, hK⟩ := F.ex
  rcases hD with ⟨_, rfl⟩ | ⟨e, _⟩
  · exact ⟨fun s us ws X l1 l2 => BindsTo.of_eq (h kV doc pm an cdv ct us ws l1 l2), fun r1 r2 => hV r1 r2⟩
  · exact absurd rfl e
theorem vals_getD {zs : List V} {ws : List Value} (h : Vals zs ws) (i : Nat) : RelV (zs.getD i .non) (ws.getD i .none) := by
  induction h generalizing i with
  | nil => exact rfl
  | cons r _ ih =>
    cases i with
    | zero => exact r
    | succ i => exact ih i
theorem vals_perm {zs : List V} {ws : List Value} (h : Vals zs ws) (idx : List Nat) : Vals (idx.map fun i => zs.getD i .non) (idx.map fun i => ws.getD i .none) := by
  induction idx with
  | nil => exact .nil
  | cons i r ih => exact .cons (vals_getD h i) ih
theorem dp_getD {K : Fg} {H : Hp} : ∀ {zs : List V} {es : List PyData}, DpAll K H zs es → ∀ i : Nat, Dp K H (zs.getD i .non) (es.getD i .none)
  | _, _, .nil, i => by cases i <;> exact .non
  | _, _, .cons d _, 0 => d
  | _, _, .cons _ t, i + 1 => dp_getD t i
theorem dp_perm {K : Fg} {H : Hp} {zs : List V} {es : List PyData} (h : DpAll K H zs es) (idx : List Nat) : DpAll K H (idx.map fun i => zs.getD i .non) (idx.map fun i => es.getD i .none) := by
  induction idx with
  | nil => exact .nil
  | cons i r ih => exact .cons (dp_getD h i) ih
theorem kbP (F : FunD K x qual params body scope [] kws f fd) (n : Nat) (ks : List Str) (idx : List Nat)
    (h : ∀ (kV doc pm : Value) (an : Option Addr) (cdv ct : Value) (us ws : List Value), us.length = n → ws.length = ks.length → bindArgs (PySem.W.fnOf x qual params body scope .none kV doc pm an cdv ct) ⟨us, ks.zip ws⟩ = pure (ps.zip (us ++ idx.map fun i => ws.getD i .none))) :
    KBn K fd ps n ks (fun us ws => us ++ idx.map fun i => ws.getD i .none) (fun vs zs => vs ++ idx.map fun i => zs.getD i .non) :=
  kbG F n ks h fun r1 r2 => r1.append (vals_perm r2 idx)
end
end DL

/-! DMa: the ways family: gears, caps, entries as data -/
namespace DL
open PySem PySem.Spec L2 DM
/-- sizes that the program's defs want of a way's steps -/
def EnW : En → Prop
  | .hop b f => Bc 90 b ∧ Bc 90 f
  | .cut ct r => CtOk 90 r ct ∧ Bd 30 r ∧ ((hd0 r ct).1 * (hd0 r ct).1 + (hd0 r ct).2 * (hd0 r ct).2 = 1 ∧ Bd2 40 (hd0 r ct)) ∧ ((hd1 r ct).1 * (hd1 r ct).1 + (hd1 r ct).2 * (hd1 r ct).2 = 1 ∧ Bd2 40 (hd1 r ct))
def EtW (t : Et) : Prop := EnW t.e ∧ (0 ≤ t.pace ∧ t.pace ≤ 9) ∧ (0 ≤ t.num ∧ t.num < 1000)
theorem EnOk.w {e : En} (h : EnOk e) : EnW e := by
  cases e with
  | hop b f => exact ⟨h.1.mono (by decide), h.2.mono (by decide)⟩
  | cut ct r =>
    obtain ⟨h1, h2, ⟨h3, h4⟩, h5, h6⟩ := h
    refine ⟨?_, h2.mono (by decide), ⟨h3, h4.1.mono (by decide), h4.2.mono (by decide)⟩, h5, h6.1.mono (by decide), h6.2.mono (by decide)⟩
    cases ct with
    | line b f => exact ⟨⟨h1.1.1.mono (by decide), h1.1.2.mono (by decide)⟩, h1.2⟩
    | arc b f o w => exact ⟨⟨h1.1.1.mono (by decide), h1.1.2.1.mono (by decide), h1.1.2.2.mono (by decide)⟩, h1.2⟩
theorem EtOk.w {t : Et} (h : EtOk t) : EtW t := ⟨h.1.w, h.2⟩
theorem dI_pos {a b : Int} (ha : 0 < a) (hb : 0 < b) : 0 < Rat.divInt a b := by
  have := (dI_le (a := a) hb).mpr (by omega)
  have ne : Rat.divInt a b ≠ 0 := by
    rw [Rat.divInt_eq_div]
    have z := DL.rz hb
    have z' := DL.rz ha
    generalize (a : Rat) = A at *
    generalize (b : Rat) = B at *
    grind
  grind
theorem num_pos0 {u : Rat} (h : 0 < u) : 0 < u.num := by
  apply Classical.byContradiction
  intro z
  have p := u.den_pos
  have := (dI_le (a := -u.num) (m := (u.den : Int)) (by omega)).mpr (by omega)
  rw [DL.dI_neg, Rat.num_divInt_den] at this
  grind
theorem ok_iff {i : Nat} {pt bd : Rat} : (i : Int) * (i : Int) * (pt.num * (bd.den : Int)) ≤ bd.num * (pt.den : Int) ↔ (i : Rat) * (i : Rat) * pt ≤ bd := by
  have p1 := pt.den_pos
  have p2 := bd.den_pos
  have pp : 0 < (pt.den : Int) * (bd.den : Int) := Int.mul_pos (by omega) (by omega)
  have z1 : ((pt.den : Int) : Rat) ≠ 0 := DL.rz (by omega)
  have z2 : ((bd.den : Int) : Rat) ≠ 0 := DL.rz (by omega)
  have e1 : pt = (pt.num : Rat) / ((pt.den : Int) : Rat) := by rw [← Rat.divInt_eq_div]; exact (Rat.num_divInt_den _).symm
  have e2 : bd = (bd.num : Rat) / ((bd.den : Int) : Rat) := by rw [← Rat.divInt_eq_div]; exact (Rat.num_divInt_den _).symm
  have ei : (((i : Int)) : Rat) = (i : Rat) := rfl
  have e : Rat.divInt (bd.num * (pt.den : Int) - (i : Int) * (i : Int) * (pt.num * (bd.den : Int))) ((pt.den : Int) * (bd.den : Int)) = bd - (i : Rat) * (i : Rat) * pt := by
    simp only [Rat.divInt_eq_div, Rat.intCast_mul, Rat.intCast_sub, ei]
    generalize (pt.num : Rat) = A at *
    generalize (bd.num : Rat) = B at *
    generalize ((pt.den : Int) : Rat) = C at *
    generalize ((bd.den : Int) : Rat) = D at *
    rw [e1, e2]
    grind
  have k := dI_le (a := bd.num * (pt.den : Int) - (i : Int) * (i : Int) * (pt.num * (bd.den : Int))) pp
  rw [e] at k
  constructor
  · intro h
    have := k.mpr (by omega)
    grind
  · intro h
    have := k.mp (by grind)
    omega
theorem mget {α : Type} {g : α → PyData} {xs : List α} {j : Nat} {d : PyData} (h : (xs.map g)[j]? = some d) : ∃ x, d = g x ∧ xs[j]? = some x ∧ j < xs.length := by
  rw [List.getElem?_map] at h
  cases e : xs[j]? with
  | none => rw [e] at h; exact nomatch h
  | some x =>
    rw [e] at h
    cases h
    exact ⟨x, rfl, rfl, get_lt e⟩
theorem take_next {α : Type} {xs : List α} {j : Nat} {x : α} (h : xs[j]? = some x) : xs.take (j + 1) = xs.take j ++ [x] := by
  rw [List.take_add_one, h]
  rfl
theorem sh_ints (ks : List Int) : SeqAt.shaped (PyData.list (ks.map .int)) = true := by
  induction ks with
  | nil => rfl
  | cons k r ih => exact ih
theorem eqv_ints (ks : List Int) : PyData.eqvAll (ks.map .int) (ks.map .int) = true := by
  induction ks with
  | nil => rfl
  | cons k r ih =>
    show (PyData.eqv (.int k) (.int k) && PyData.eqvAll (r.map .int) (r.map .int)) = true
    rw [ih, Bool.and_true]
    show (k == k) = true
    exact beq_self_eq_true k
theorem bools_rep (n : Nat) : bools (List.replicate n (PyData.bool false)) = some (List.replicate n false) := by
  induction n with
  | zero => rfl
  | succ k ih =>
    rw [List.replicate_succ, List.replicate_succ]
    show (bools (List.replicate k (PyData.bool false))).map (false :: ·) = _
    rw [ih]
    rfl
theorem any_rep (n : Nat) : (List.replicate n false).any id = false := by
  induction n with
  | zero => rfl
  | succ k ih =>
    rw [List.replicate_succ, List.any_cons, ih]
    rfl
theorem sh_nums (rs : List Rat) (h : ∀ r ∈ rs, 0 < r ∧ Bd 9 r) : SeqAt.shaped (PyData.list (rs.map numD)) = true := by
  refine (Gd.lst (n := 1) fun x hx => ?_).sh (by decide)
  obtain ⟨r, hr, rfl⟩ := List.mem_map.mp hx
  have b := ((h r hr).2).mono (show 9 ≤ 900 by decide)
  have b1 := b.1
  have b2 := b.2
  refine Gd.tup (n := 0) fun y hy => ?_
  rcases List.mem_cons.mp hy with z | z
  · rw [z]
    exact Gd.int b1
  · rw [List.mem_singleton.mp z]
    exact Gd.int (by rw [Int.natAbs_natCast]; exact b2)
def gearN : Nat → Rat → Rat → Nat
  | 0, _, _ => 0
  | k + 1, pt, bd => if ((k + 1 : Nat) : Rat) * ((k + 1 : Nat) : Rat) * pt ≤ bd then k + 1 else gearN k pt bd
theorem gear_hit {m : Nat} {pt bd : Rat} (h : (m : Rat) * (m : Rat) * pt ≤ bd) : gearN m pt bd = m := by
  cases m with
  | zero => rfl
  | succ k => exact if_pos h
theorem gear_miss {k : Nat} {pt bd : Rat} (h : bd < ((k + 1 : Nat) : Rat) * ((k + 1 : Nat) : Rat) * pt) : gearN (k + 1) pt bd = gearN k pt bd := if_neg (by grind)
theorem gear_uniq {m g : Nat} {pt bd : Rat} (h : g ≤ m) (hg : (g : Rat) * (g : Rat) * pt ≤ bd) (ht : ∀ k : Nat, k ≤ m → (k : Rat) * (k : Rat) * pt ≤ bd → k ≤ g) : gearN m pt bd = g := by
  induction m with
  | zero => rw [show g = 0 by omega]; rfl
  | succ k ih =>
    by_cases e : ((k + 1 : Nat) : Rat) * ((k + 1 : Nat) : Rat) * pt ≤ bd
    · rw [gear_hit e]
      have := ht (k + 1) (Nat.le_refl _) e
      omega
    · rw [gear_miss (by grind)]
      refine ih ?_ fun j hj hb => ht j (by omega) hb
      rcases Nat.lt_or_ge k g with z | z
      · have : g = k + 1 := by omega
        subst this
        exact absurd hg e
      · exact z
def capOf (pl : Rat) (t : Et) : Int :=
  match t.e with
  | .hop _ _ => 0
  | .cut (.line _ _) _ => t.pace
  | .cut (.arc _ _ _ _) r => (gearN t.pace.toNat 1 (pl * r) : Nat)
def f_gear : FP := fn3 PyData.int numD numD (fun m pt bd => (0 ≤ m ∧ m ≤ 9) ∧ 0 ≤ bd ∧ Bd 900 pt ∧ Bd 900 bd) (fun m pt bd => .int ((gearN m.toNat pt bd : Nat) : Int))
instance : FMono f_gear := fm3
theorem ap_gear {m : Int} {u v : Rat} {Q : Res → Prop} : f_gear [.int m, numD u, numD v] Q = (((0 ≤ m ∧ m ≤ 9) ∧ 0 ≤ v ∧ Bd 900 u ∧ Bd 900 v) ∧ Q (.d (.int ((gearN m.toNat u v : Nat) : Int)))) := fn3_ap int_inj num_inj num_inj
def f_cap : FP := fn2 etD numD (fun t pl => EtW t ∧ 0 ≤ pl ∧ Bd 100 pl) (fun t pl => .int (capOf pl t))
instance : FMono f_cap := fm2
def f_caps : FP := fun ds Q => ∃ (ts : List Et) (pl : Rat), ds = [.list (ts.map etD), numD pl] ∧ ((∀ t ∈ ts, EtW t) ∧ ts.length ≤ 400 ∧ 0 ≤ pl ∧ Bd 100 pl) ∧ Q (.o (ts.map fun t => .int (capOf pl t)))
theorem fm_caps : FMono f_caps := ⟨fun ds Q Q' hq ⟨ts, pl, h1, h2, h⟩ => ⟨ts, pl, h1, h2, hq _ h⟩⟩
instance : FMono f_caps := fm_caps
theorem ln_caps : ∀ ds Q, f_caps ds Q → ds.length = 2 := fun ds Q ⟨ts, pl, e, _⟩ => by rw [e]; rfl
def f_lcap : FP := fun ds Q => ∃ (t : Et) (pl : Rat), ds = [etD t, faD t.e, numD pl] ∧ (EtW t ∧ 0 ≤ pl ∧ Bd 100 pl) ∧ Q (.d (.int (capOf pl t)))
theorem fm_lcap : FMono f_lcap := ⟨fun ds Q Q' hq ⟨ts, pl, h1, h2, h⟩ => ⟨ts, pl, h1, h2, hq _ h⟩⟩
instance : FMono f_lcap := fm_lcap
theorem ln_lcap : ∀ ds Q, f_lcap ds Q → ds.length = 3 := fun ds Q ⟨ts, pl, e, _⟩ => by rw [e]; rfl
def f_small : FB := bg0 4 numD (fun u => 0 < u ∧ Bd 40 u)
instance : BMono f_small := bm0
def f_just : FB := bg1 1 numD (fun u => 0 < u ∧ Bd 40 u) numD (fun _ v => 0 < v ∧ Bd 60 v)
instance : BMono f_just := bm1
def f_pull : FB := fun xs ds Q => ∃ (n : Nat) (ts : List Et), BagOk n xs ∧ n + 10 ≤ mostDraws ∧ ds = [.list (ts.map etD), .list (ts.map fun t => faD t.e)] ∧ ((∀ t ∈ ts, EtOk t) ∧ ts.length ≤ 400) ∧ ∀ (u : Rat) xs', 0 < u → Bd 60 u → BagOk (n + 10) xs' → Q (.d (numD u)) xs'
theorem bm_pull : BMono f_pull := ⟨fun xs ds Q Q' hq ⟨n, ts, h1, h2, h3, h4, h⟩ => ⟨n, ts, h1, h2, h3, h4, fun u xs' a b c => hq _ _ (h u xs' a b c)⟩⟩
instance : BMono f_pull := bm_pull
theorem bl_pull : ∀ xs ds Q, f_pull xs ds Q → ds.length + 1 = 3 := fun xs ds Q ⟨n, ts, h1, h2, h3, _⟩ => by rw [h3]; rfl
def f_sizes : FB := bg0 1 DL.prD (fun p : Int × Int => (0 ≤ p.1 ∧ p.1 ≤ 300) ∧ (1 ≤ p.2 ∧ p.2 ≤ 40))
instance : BMono f_sizes := bm0
def f_areg : FP := fun ds Q => ∃ ks : List Int, ds = [.list (ks.map .int), .list (ks.map .int)] ∧ ks.length ≤ 400 ∧ Q (.d (.bool true))
theorem fm_areg : FMono f_areg := ⟨fun ds Q Q' hq ⟨ks, h1, h2, h⟩ => ⟨ks, h1, h2, hq _ h⟩⟩
instance : FMono f_areg := fm_areg
theorem ln_areg : ∀ ds Q, f_areg ds Q → ds.length = 2 := fun ds Q ⟨ks, e, _⟩ => by rw [e]; rfl
theorem flat_ints {α : Type} (ts : List α) (f : α → Int) : (ts.map fun t => PyData.int (f t)).all flatD = true := by
  induction ts with
  | nil => rfl
  | cons t r ih =>
    rw [List.map_cons, List.all_cons, ih]
    rfl
theorem Gd.eqv {n : Nat} {d : PyData} (h : Gd n d) : PyData.eqv d d = true := SeqAt.eqv_refl d h.can.1
theorem et_gd {t : Et} (h : EtW t) : Gd 31 (etD t) := by
  obtain ⟨h1, ⟨h2, h3⟩, h4, h5⟩ := h
  refine Gd.lst3 (n := 30) ?_ (.int ?_) (.int ?_)
  · cases e : t.e with
    | hop b f =>
      rw [e] at h1
      obtain ⟨b1, b2⟩ := h1
      exact (Gd.lst3 (.str _) (.pl (b1.bd.1.mono (by decide)) (b1.bd.2.mono (by decide))) (.pl (b2.bd.1.mono (by decide)) (b2.bd.2.mono (by decide)))).mono (show 3 ≤ 30 by decide)
    | cut ct r =>
      rw [e] at h1
      exact ct_gd h1.1 (by decide)
  · exact Nat.lt_of_lt_of_le (show _ < 2 ^ 10 by omega) (Nat.pow_le_pow_right (by decide) (by decide))
  · exact Nat.lt_of_lt_of_le (show _ < 2 ^ 10 by omega) (Nat.pow_le_pow_right (by decide) (by decide))
theorem ets_gd {ts : List Et} (h : ∀ t ∈ ts, EtW t) : Gd 32 (.list (ts.map etD)) := .lst fun x hx => by
  obtain ⟨t, ht, rfl⟩ := List.mem_map.mp hx
  exact et_gd (h t ht)

end DL

/-! DMb: gears at joints, plans: the plain law -/
namespace DL
open PySem PySem.Spec L2 DM
/-! ### lists by functions -/
def lf (n : Nat) (f : Nat → Int) : List PyData := (List.range n).map fun i => .int (f i)
theorem lf_len (n : Nat) (f : Nat → Int) : (lf n f).length = n := by rw [lf, List.length_map, List.length_range]
theorem lf_get {n i : Nat} {f : Nat → Int} (h : i < n) : (lf n f)[i]? = some (.int (f i)) := by rw [lf, List.getElem?_map, List.getElem?_range h]; rfl
theorem lf_ext {L : List PyData} {n : Nat} {f : Nat → Int} (hl : L.length = n) (h : ∀ i, i < n → L[i]? = some (.int (f i))) : L = lf n f := by
  apply List.ext_getElem?
  intro i
  by_cases hi : i < n
  · rw [h i hi, lf_get hi]
  · rw [List.getElem?_eq_none (by omega), List.getElem?_eq_none (by rw [lf_len]; omega)]
theorem lf_congr {n : Nat} {f g : Nat → Int} (h : ∀ i, i < n → f i = g i) : lf n f = lf n g := lf_ext (lf_len _ _) fun i hi => by rw [lf_get hi, h i hi]
def up1 (f : Nat → Int) (k : Nat) (v : Int) : Nat → Int := fun i => if i = k then v else f i
theorem lf_set {n k : Nat} {f : Nat → Int} {v : Int} : (lf n f).set k (.int v) = lf n (up1 f k v) := lf_ext (by rw [List.length_set, lf_len]) fun i hi => by
  rw [List.getElem?_set]
  by_cases e : k = i
  · rw [if_pos e, if_pos (by rw [lf_len]; omega), up1, if_pos e.symm]
  · rw [if_neg e, lf_get hi, up1, if_neg (fun z => e z.symm)]
theorem lf_at {n k : Nat} {f : Nat → Int} (h : k < n) : atI (lf n f) (k : Int) = some (.int (f k)) := atI_nat (lf_get h)
theorem ixN_nat {n k : Nat} (h : k < n) : ixN n (k : Int) = some k := by
  unfold ixN
  rw [if_pos (by omega), if_pos (by omega)]
  rfl
/-! ### the greatest gears -/
structure Sol (n : Nat) (c r d S : Nat → Int) : Prop where
  le : ∀ i, i ≤ n → S i ≤ c i
  up : ∀ k, k < n → S (k + 1) ≤ S k + r k
  dn : ∀ k, k < n → S k ≤ S (k + 1) + d k
structure Grt (n : Nat) (c r d G : Nat → Int) : Prop where
  sol : Sol n c r d G
  top : ∀ S, Sol n c r d S → ∀ i, i ≤ n → S i ≤ G i
theorem Grt.uniq {n : Nat} {c r d G G' : Nat → Int} (h : Grt n c r d G) (h' : Grt n c r d G') {i : Nat} (hi : i ≤ n) : G i = G' i := by
  have := h.top G' h'.sol i hi
  have := h'.top G h.sol i hi
  omega
def gfw (c r : Nat → Int) : Nat → Int
  | 0 => c 0
  | k + 1 => min (c (k + 1)) (gfw c r k + r k)
/-- from n down: m steps -/
def bwk (F d : Nat → Int) (n : Nat) : Nat → Int
  | 0 => F n
  | m + 1 => min (F (n - (m + 1))) (bwk F d n m + d (n - (m + 1)))
def gbw (F d : Nat → Int) (n i : Nat) : Int := bwk F d n (n - i)
theorem gbw_n (F d : Nat → Int) (n : Nat) : gbw F d n n = F n := by rw [gbw, Nat.sub_self]; rfl
theorem gbw_k {F d : Nat → Int} {n k : Nat} (h : k < n) : gbw F d n k = min (F k) (gbw F d n (k + 1) + d k) := by
  obtain ⟨m, hm⟩ : ∃ m, n - k = m + 1 := ⟨n - k - 1, by omega⟩
  rw [gbw, gbw, hm, show n - (k + 1) = m by omega, bwk, show n - (m + 1) = k by omega]
def gr (n : Nat) (c r d : Nat → Int) : Nat → Int := gbw (gfw c r) d n
theorem gfw_le {c r : Nat → Int} (k : Nat) : gfw c r k ≤ c k := by
  cases k with
  | zero => exact Int.le_refl _
  | succ k => exact Int.min_le_left _ _
theorem gbw_le {F d : Nat → Int} {n k : Nat} (h : k ≤ n) : gbw F d n k ≤ F k := by
  rcases Nat.lt_or_ge k n with z | z
  · rw [gbw_k z]
    exact Int.min_le_left _ _
  · rw [show k = n by omega, gbw_n]
    exact Int.le_refl _
theorem gr_grt {n : Nat} {c r d : Nat → Int} (hr : ∀ k, k < n → 0 ≤ r k) (hd : ∀ k, k < n → 0 ≤ d k) : Grt n c r d (gr n c r d) := by
  refine ⟨⟨fun i hi => Int.le_trans (gbw_le hi) (gfw_le i), fun k hk => ?_, fun k hk => ?_⟩, fun S s i hi => ?_⟩
  · show gbw _ _ _ _ ≤ gbw _ _ _ _ + _
    rw [gbw_k hk]
    have h1 := gbw_le (F := gfw c r) (d := d) (n := n) (k := k + 1) (by omega)
    have h2 : gfw c r (k + 1) ≤ gfw c r k + r k := Int.min_le_right _ _
    have := hr k hk
    have := hd k hk
    omega
  · show gbw _ _ _ _ ≤ gbw _ _ _ _ + _
    rw [gbw_k hk]
    exact Int.min_le_right _ _
  · have f : ∀ k, k ≤ n → S k ≤ gfw c r k := by
      intro k
      induction k with
      | zero => intro _; exact s.le 0 (by omega)
      | succ k ih =>
        intro hk
        have := ih (by omega)
        have := s.up k (by omega)
        have := s.le (k + 1) hk
        show _ ≤ min _ _
        omega
    have b : ∀ m, m ≤ n → S (n - m) ≤ gbw (gfw c r) d n (n - m) := by
      intro m
      induction m with
      | zero => intro _; rw [Nat.sub_zero, gbw_n]; exact f n (Nat.le_refl _)
      | succ m ih =>
        intro hm
        have hk : n - (m + 1) < n := by omega
        rw [gbw_k hk, show n - (m + 1) + 1 = n - m by omega]
        have := ih (by omega)
        have := f (n - (m + 1)) (by omega)
        have := s.dn (n - (m + 1)) hk
        rw [show n - (m + 1) + 1 = n - m by omega] at this
        omega
    have := b (n - i) (by omega)
    rw [show n - (n - i) = i by omega] at this
    exact this
theorem gr_congr {n : Nat} {c c' r r' d d' : Nat → Int} (hc : ∀ i, i ≤ n → c i = c' i) (hr : ∀ i, i < n → r i = r' i) (hd : ∀ i, i < n → d i = d' i) {i : Nat} (hi : i ≤ n) : gr n c r d i = gr n c' r' d' i := by
  have f : ∀ k, k ≤ n → gfw c r k = gfw c' r' k := by
    intro k
    induction k with
    | zero => intro _; exact hc 0 (by omega)
    | succ k ih => intro hk; show min _ _ = min _ _; rw [hc (k + 1) hk, ih (by omega), hr k (by omega)]
  have b : ∀ m, m ≤ n → bwk (gfw c r) d n m = bwk (gfw c' r') d' n m := by
    intro m
    induction m with
    | zero => intro _; exact f n (Nat.le_refl _)
    | succ m ih => intro hm; show min _ _ = min _ _; rw [f _ (by omega), ih (by omega), hd _ (by omega)]
  exact b (n - i) (by omega)
theorem gr_nn {n : Nat} {c r d : Nat → Int} (hc : ∀ i, i ≤ n → 0 ≤ c i) (hr : ∀ k, k < n → 0 ≤ r k) (hd : ∀ k, k < n → 0 ≤ d k) {i : Nat} (hi : i ≤ n) : 0 ≤ gr n c r d i :=
  (gr_grt hr hd).top (fun _ => 0) ⟨fun i hi => hc i hi, fun k hk => by have := hr k hk; omega, fun k hk => by have := hd k hk; omega⟩ i hi
/-! sums -/
def sm (n : Nat) (f : Nat → Int) : Int := match n with
  | 0 => f 0
  | n + 1 => sm n f + f (n + 1)
theorem sm_nn {f : Nat → Int} : ∀ {n : Nat}, (∀ i, i ≤ n → 0 ≤ f i) → 0 ≤ sm n f
  | 0, h => h 0 (Nat.le_refl _)
  | n + 1, h => by
    have := sm_nn (n := n) (f := f) fun i hi => h i (by omega)
    have := h (n + 1) (Nat.le_refl _)
    show 0 ≤ sm n f + f (n + 1)
    omega
theorem sm_le {f g : Nat → Int} : ∀ {n : Nat}, (∀ i, i ≤ n → f i ≤ g i) → sm n f ≤ sm n g
  | 0, h => h 0 (Nat.le_refl _)
  | n + 1, h => by
    have := sm_le (n := n) (f := f) (g := g) fun i hi => h i (by omega)
    have := h (n + 1) (Nat.le_refl _)
    show sm n f + f (n + 1) ≤ sm n g + g (n + 1)
    omega
theorem sm_lt {f g : Nat → Int} : ∀ {n : Nat}, (∀ i, i ≤ n → f i ≤ g i) → (∃ k, k ≤ n ∧ f k < g k) → sm n f < sm n g
  | 0, h, ⟨k, hk, e⟩ => by rw [show k = 0 by omega] at e; exact e
  | n + 1, h, ⟨k, hk, e⟩ => by
    have h1 := sm_le (n := n) (f := f) (g := g) fun i hi => h i (by omega)
    have h2 := h (n + 1) (Nat.le_refl _)
    show sm n f + f (n + 1) < sm n g + g (n + 1)
    rcases Nat.lt_or_ge k (n + 1) with z | z
    · have := sm_lt (n := n) (f := f) (g := g) (fun i hi => h i (by omega)) ⟨k, by omega, e⟩
      omega
    · rw [show k = n + 1 by omega] at e
      omega
/-! ### tops -/
def climb (p : Int → Bool) : Nat → Int → Int
  | 0, t => t
  | n + 1, t => if p (t + 1) = true then climb p n (t + 1) else t
theorem climb_hit {p : Int → Bool} {n : Nat} {t : Int} (h : p (t + 1) = true) : climb p (n + 1) t = climb p n (t + 1) := if_pos h
theorem climb_miss {p : Int → Bool} {n : Nat} {t : Int} (h : p (t + 1) = false) : climb p n t = t := by
  cases n with
  | zero => rfl
  | succ n => exact if_neg (by rw [h]; decide)
theorem climb_ge {p : Int → Bool} : ∀ {n : Nat} {t : Int}, t ≤ climb p n t ∧ climb p n t ≤ t + n
  | 0, t => ⟨Int.le_refl _, by show t ≤ _; omega⟩
  | n + 1, t => by
    cases h : p (t + 1)
    · rw [climb_miss h]
      omega
    · rw [climb_hit h]
      have := climb_ge (p := p) (n := n) (t := t + 1)
      omega
theorem climb_ok {p : Int → Bool} : ∀ {n : Nat} {t : Int}, p t = true → p (climb p n t) = true
  | 0, t, h => h
  | n + 1, t, h => by
    cases e : p (t + 1)
    · rw [climb_miss e]
      exact h
    · rw [climb_hit e]
      exact climb_ok e
/-- the greatest one that is let, where what is let is let below -/
theorem climb_top {p : Int → Bool} : ∀ {n : Nat} {t : Int}, (∀ x, t ≤ x → p (x + 1) = true → p x = true) → ∀ x, t ≤ x → x ≤ t + n → p x = true → x ≤ climb p n t
  | 0, t, _, x, h1, h2, _ => by show x ≤ t; omega
  | n + 1, t, hd, x, h1, h2, hx => by
    cases e : p (t + 1)
    · rw [climb_miss e]
      apply Classical.byContradiction
      intro z
      have : ∀ m : Nat, ∀ y, t + 1 ≤ y → y = t + 1 + m → p y = true → False := by
        intro m
        induction m with
        | zero => intro y _ ey hy; rw [ey] at hy; simp at hy; rw [e] at hy; exact nomatch hy
        | succ m ih =>
          intro y h1 ey hy
          refine ih (y - 1) (by omega) (by omega) (hd (y - 1) (by omega) ?_)
          rw [show y - 1 + 1 = y by omega]
          exact hy
      exact this (x - (t + 1)).toNat x (by omega) (by omega) hx
    · rw [climb_hit e]
      rcases (show t < x ∨ x ≤ t by omega) with z | z
      · exact climb_top (n := n) (fun y hy => hd y (by omega)) x (by omega) (by omega) hx
      · have := climb_ge (p := p) (n := n) (t := t + 1)
        omega
theorem climb_eq {p : Int → Bool} {n : Nat} {t x : Int} (hd : ∀ x, t ≤ x → p (x + 1) = true → p x = true) (h1 : t ≤ x) (h2 : x ≤ t + n) (hp : p x = true) (ht : ∀ y, t ≤ y → y ≤ t + n → p y = true → y ≤ x) : climb p n t = x := by
  have a := climb_top hd x h1 h2 hp
  have b := climb_ge (p := p) (n := n) (t := t)
  have p0 : p t = true := by
    have : ∀ m : Nat, ∀ y, t ≤ y → y = t + m → p y = true → p t = true := by
      intro m
      induction m with
      | zero => intro y _ ey hy; rw [ey] at hy; simpa using hy
      | succ m ih =>
        intro y h1 ey hy
        refine ih (y - 1) (by omega) (by omega) (hd (y - 1) (by omega) ?_)
        rw [show y - 1 + 1 = y by omega]
        exact hy
    exact this (x - t).toNat x h1 (by omega) hp
  have c := ht _ b.1 b.2 (climb_ok p0)
  omega
end DL

/-! DMc: joints, plans: promises -/
namespace DL
open PySem PySem.Spec L2 DM
/-! ### floors -/
theorem floor_dI {a b : Int} (hb : 0 < b) : (Rat.divInt a b).floor = a.fdiv b := by
  have hz := DL.rz hb
  apply Int.le_antisymm
  · rw [Int.fdiv_eq_ediv_of_nonneg _ (by omega)]
    refine Int.le_ediv_of_mul_le hb ?_
    have h1 := Rat.floor_le (Rat.divInt a b)
    have h2 := (dI_le (a := a - (Rat.divInt a b).floor * b) hb).mp (by
      have e : Rat.divInt (a - (Rat.divInt a b).floor * b) b = Rat.divInt a b - ((Rat.divInt a b).floor : Rat) := by
        generalize (Rat.divInt a b).floor = k
        simp only [Rat.divInt_eq_div, Rat.intCast_sub, Rat.intCast_mul]
        grind
      rw [e]
      grind)
    omega
  · rw [Rat.le_floor_iff]
    rw [Int.fdiv_eq_ediv_of_nonneg _ (by omega)]
    have h1 := Int.ediv_mul_le a (show b ≠ 0 by omega)
    have h2 := (dI_le (a := a - a / b * b) hb).mpr (by omega)
    have e : Rat.divInt (a - a / b * b) b = Rat.divInt a b - ((a / b : Int) : Rat) := by
      generalize a / b = k
      simp only [Rat.divInt_eq_div, Rat.intCast_sub, Rat.intCast_mul]
      grind
    rw [e] at h2
    grind
theorem floor_nn {u : Rat} (h : 0 ≤ u) : 0 ≤ u.floor := by
  rw [Rat.le_floor_iff]
  exact h
theorem div_nn {r b : Rat} (hr : 0 ≤ r) (hb : 0 < b) : 0 ≤ r / b := by
  rw [Rat.div_def]
  exact Rat.mul_nonneg hr (by have := Rat.inv_pos.mpr hb; grind)
/-! ### what is known of steps -/
structure Lim where
  pl : Rat
  jt : Rat
  up : Rat
  dn : Rat
def LimOk (l : Lim) : Prop := (0 < l.pl ∧ Bd 100 l.pl) ∧ (0 < l.jt ∧ Bd 100 l.jt) ∧ (0 < l.up ∧ Bd 100 l.up) ∧ (0 < l.dn ∧ Bd 100 l.dn)
def limD (l : Lim) : PyData := .tuple [numD l.pl, numD l.jt, numD l.up, numD l.dn]
def dotR (u v : Rat × Rat) : Rat := u.1 * v.1 + u.2 * v.2
def joltOf (jt : Rat) : En → En → Int
  | .cut c r, .cut c' r' => if hd1 r c = hd0 r' c' then 9 else ((gearN 9 (2 - 2 * dotR (hd1 r c) (hd0 r' c')) (jt * jt) : Nat) : Int)
  | _, _ => 0
def jcap (pl jt : Rat) (a b : Et) : Int := min (min (capOf pl a) (capOf pl b)) (joltOf jt a.e b.e)
def jcaps (pl jt : Rat) (ts : List Et) : Nat → Int
  | 0 => 0
  | k + 1 => match ts[k]?, ts[k + 1]? with
    | some a, some b => jcap pl jt a b
    | _, _ => 0
def chg (by_ : Rat) : En → Int
  | .cut (.line _ _) r => (r / by_).floor
  | _ => 0
def et0 : Et := ⟨.hop (0, 0) (0, 0), 0, 0⟩
def chgs (by_ : Rat) (ts : List Et) (k : Nat) : Int := chg by_ (ts.getD k et0).e
def fitR (r up dn : Rat) (a t l : Int) : Bool := decide (((t - a : Int) : Rat) * up + ((t - l : Int) : Rat) * dn ≤ r)
def fitE (up dn : Rat) (e : En) (a l t : Int) : Bool := match e with
  | .cut (.line _ _) r => decide (a ≤ t) && decide (l ≤ t) && fitR r up dn a t l
  | _ => decide (a = t) && decide (t = l)
def topE (up dn : Rat) (e : En) (cap a l : Int) : Int := climb (fitE up dn e a l) (cap - max a l).toNat (max a l)
def g3D (p : Int × Int × Int) : PyData := .tuple [.int p.1, .int p.2.1, .int p.2.2]
/-- a plan by its joints' gears -/
def planG (l : Lim) (ts : List Et) (G : Nat → Int) : List (Int × Int × Int) := (List.range ts.length).map fun i => (G i, topE l.up l.dn (ts.getD i et0).e (capOf l.pl (ts.getD i et0)) (G i) (G (i + 1)), G (i + 1))
def gears (l : Lim) (ts : List Et) (c : Nat → Int) : Nat → Int := gr ts.length c (chgs l.up ts) (chgs l.dn ts)
def planL (l : Lim) (ts : List Et) : List (Int × Int × Int) := planG l ts (gears l ts (jcaps l.pl l.jt ts))
/-! ### bounds -/
theorem gear_le {m : Nat} {pt bd : Rat} : gearN m pt bd ≤ m := by
  induction m with
  | zero => exact Nat.le_refl _
  | succ k ih =>
    unfold gearN
    split
    · exact Nat.le_refl _
    · omega
theorem cap_in {pl : Rat} {t : Et} (h : EtW t) : 0 ≤ capOf pl t ∧ capOf pl t ≤ t.pace := by
  obtain ⟨_, ⟨h1, h2⟩, _⟩ := h
  unfold capOf
  split
  · omega
  · omega
  · have := gear_le (m := t.pace.toNat) (pt := 1) (bd := pl * ‹Rat›)
    omega
theorem jolt_in {jt : Rat} {a b : En} : 0 ≤ joltOf jt a b ∧ joltOf jt a b ≤ 9 := by
  unfold joltOf
  split
  · split
    · omega
    · rename_i c r c' r' _
      have := gear_le (m := 9) (pt := 2 - 2 * dotR (hd1 r c) (hd0 r' c')) (bd := jt * jt)
      omega
  · omega
theorem jcap_in {pl jt : Rat} {a b : Et} (ha : EtW a) (hb : EtW b) : 0 ≤ jcap pl jt a b ∧ jcap pl jt a b ≤ 9 := by
  have h1 := cap_in (pl := pl) ha
  have h2 := cap_in (pl := pl) hb
  have h3 := jolt_in (jt := jt) (a := a.e) (b := b.e)
  have := ha.2.1
  unfold jcap
  omega
theorem jcaps_in {pl jt : Rat} {ts : List Et} (h : ∀ t ∈ ts, EtW t) (k : Nat) : 0 ≤ jcaps pl jt ts k ∧ jcaps pl jt ts k ≤ 9 := by
  cases k with
  | zero => exact ⟨Int.le_refl _, show (0 : Int) ≤ 9 by decide⟩
  | succ k =>
    have e : jcaps pl jt ts (k + 1) = (match ts[k]?, ts[k + 1]? with | some a, some b => jcap pl jt a b | _, _ => 0) := rfl
    rw [e]
    split
    · rename_i a b e1 e2
      exact jcap_in (h a (List.mem_of_getElem? e1)) (h b (List.mem_of_getElem? e2))
    · omega
theorem chg_nn {by_ : Rat} {e : En} (hb : 0 < by_) (h : EnW e) : 0 ≤ chg by_ e := by
  unfold chg
  split
  · exact floor_nn (div_nn (by have := h.1.2.1; grind) hb)
  · exact Int.le_refl _
theorem et0_w : EtW et0 := ⟨⟨⟨0, 0, 1, by decide, by decide, by decide, by decide, by decide, by decide⟩, ⟨0, 0, 1, by decide, by decide, by decide, by decide, by decide, by decide⟩⟩, ⟨by decide, by decide⟩, by decide, by decide⟩
theorem getD_w {ts : List Et} (h : ∀ t ∈ ts, EtW t) (k : Nat) : EtW (ts.getD k et0) := by
  rw [List.getD_eq_getElem?_getD]
  cases e : ts[k]? with
  | none => exact et0_w
  | some t => exact h t (List.mem_of_getElem? e)
theorem chgs_nn {by_ : Rat} {ts : List Et} (hb : 0 < by_) (h : ∀ t ∈ ts, EtW t) (k : Nat) : 0 ≤ chgs by_ ts k := chg_nn hb (getD_w h k).1
theorem getD_of {ts : List Et} {k : Nat} {t : Et} (h : ts[k]? = some t) : ts.getD k et0 = t := by
  rw [List.getD_eq_getElem?_getD, h]
  rfl
/-! ### promises -/
def f_beg : FP := fun ds Q => ∃ e : En, ds = [stD e] ∧ Q (.d (plD (beg e)))
theorem fm_beg : FMono f_beg := ⟨fun ds Q Q' hq ⟨e, h1, h⟩ => ⟨e, h1, hq _ h⟩⟩
instance : FMono f_beg := fm_beg
theorem ln_beg : ∀ ds Q, f_beg ds Q → ds.length = 1 := fun ds Q ⟨e, h, _⟩ => by rw [h]; rfl
def f_fin : FP := fun ds Q => ∃ e : En, ds = [stD e] ∧ Q (.d (plD (fin e)))
theorem fm_fin : FMono f_fin := ⟨fun ds Q Q' hq ⟨e, h1, h⟩ => ⟨e, h1, hq _ h⟩⟩
instance : FMono f_fin := fm_fin
theorem ln_fin : ∀ ds Q, f_fin ds Q → ds.length = 1 := fun ds Q ⟨e, h, _⟩ => by rw [h]; rfl
def f_jolt : FP := fun ds Q => ∃ (a b : En) (jt : Rat), ds = [stD a, stD b, numD jt] ∧ (EnW a ∧ EnW b ∧ 0 < jt ∧ Bd 100 jt) ∧ Q (.d (.int (joltOf jt a b)))
theorem fm_jolt : FMono f_jolt := ⟨fun ds Q Q' hq ⟨a, b, jt, h1, h2, h⟩ => ⟨a, b, jt, h1, h2, hq _ h⟩⟩
instance : FMono f_jolt := fm_jolt
theorem ln_jolt : ∀ ds Q, f_jolt ds Q → ds.length = 3 := fun ds Q ⟨a, b, jt, h, _⟩ => by rw [h]; rfl
def f_jcap : FP := fun ds Q => ∃ (a b : Et) (pl jt : Rat), ds = [etD a, etD b, numD pl, numD jt] ∧ (EtW a ∧ EtW b ∧ (0 < pl ∧ Bd 100 pl) ∧ 0 < jt ∧ Bd 100 jt) ∧ Q (.d (.int (jcap pl jt a b)))
theorem fm_jcap : FMono f_jcap := ⟨fun ds Q Q' hq ⟨a, b, pl, jt, h1, h2, h⟩ => ⟨a, b, pl, jt, h1, h2, hq _ h⟩⟩
instance : FMono f_jcap := fm_jcap
theorem ln_jcap : ∀ ds Q, f_jcap ds Q → ds.length = 4 := fun ds Q ⟨a, b, pl, jt, h, _⟩ => by rw [h]; rfl
def f_jcaps : FP := fun ds Q => ∃ (ts : List Et) (pl jt : Rat), ds = [.list (ts.map etD), numD pl, numD jt] ∧ ((∀ t ∈ ts, EtW t) ∧ ts.length ≤ 400 ∧ (0 < pl ∧ Bd 100 pl) ∧ 0 < jt ∧ Bd 100 jt) ∧ Q (.o (lf (ts.length + 1) (jcaps pl jt ts)))
theorem fm_jcaps : FMono f_jcaps := ⟨fun ds Q Q' hq ⟨ts, pl, jt, h1, h2, h⟩ => ⟨ts, pl, jt, h1, h2, hq _ h⟩⟩
instance : FMono f_jcaps := fm_jcaps
theorem ln_jcaps : ∀ ds Q, f_jcaps ds Q → ds.length = 3 := fun ds Q ⟨ts, pl, jt, h, _⟩ => by rw [h]; rfl
def f_length : FP := fun ds Q => ∃ (b f : Rat × Rat) (r : Rat), ds = [cD (.line b f)] ∧ CtOk 90 r (.line b f) ∧ Q (.d (numD r))
theorem fm_length : FMono f_length := ⟨fun ds Q Q' hq ⟨b, f, r, h1, h2, h⟩ => ⟨b, f, r, h1, h2, hq _ h⟩⟩
instance : FMono f_length := fm_length
theorem ln_length : ∀ ds Q, f_length ds Q → ds.length = 1 := fun ds Q ⟨b, f, r, h, _⟩ => by rw [h]; rfl
def f_chg : FP := fun ds Q => ∃ (e : En) (b : Rat), ds = [stD e, numD b] ∧ (EnW e ∧ 0 < b ∧ Bd 100 b) ∧ Q (.d (.int (chg b e)))
theorem fm_chg : FMono f_chg := ⟨fun ds Q Q' hq ⟨e, b, h1, h2, h⟩ => ⟨e, b, h1, h2, hq _ h⟩⟩
instance : FMono f_chg := fm_chg
theorem ln_chg : ∀ ds Q, f_chg ds Q → ds.length = 2 := fun ds Q ⟨e, b, h, _⟩ => by rw [h]; rfl
/-- gears as they may be asked -/
def Gz (a t l : Int) : Prop := (-1000 ≤ a ∧ a ≤ 1000) ∧ (-1000 ≤ t ∧ t ≤ 1000) ∧ (-1000 ≤ l ∧ l ≤ 1000)
def f_fitl : FP := fun ds Q => ∃ (b f : Rat × Rat) (r : Rat) (a t l : Int) (up dn : Rat), ds = [cD (.line b f), .tuple [.int a, .int t, .int l], numD up, numD dn] ∧ (CtOk 90 r (.line b f) ∧ Bd 30 r ∧ Gz a t l ∧ Bd 100 up ∧ Bd 100 dn) ∧ Q (.d (.bool (decide (a ≤ t) && decide (l ≤ t) && fitR r up dn a t l)))
theorem fm_fitl : FMono f_fitl := ⟨fun ds Q Q' hq ⟨b, f, r, a, t, l, up, dn, h1, h2, h⟩ => ⟨b, f, r, a, t, l, up, dn, h1, h2, hq _ h⟩⟩
instance : FMono f_fitl := fm_fitl
theorem ln_fitl : ∀ ds Q, f_fitl ds Q → ds.length = 4 := fun ds Q ⟨b, f, r, a, t, l, up, dn, h, _⟩ => by rw [h]; rfl
def f_fits : FP := fun ds Q => ∃ (e : En) (a t l : Int) (up dn : Rat), ds = [stD e, .tuple [.int a, .int t, .int l], numD up, numD dn] ∧ (EnW e ∧ Gz a t l ∧ Bd 100 up ∧ Bd 100 dn) ∧ Q (.d (.bool (fitE up dn e a l t)))
theorem fm_fits : FMono f_fits := ⟨fun ds Q Q' hq ⟨e, a, t, l, up, dn, h1, h2, h⟩ => ⟨e, a, t, l, up, dn, h1, h2, hq _ h⟩⟩
instance : FMono f_fits := fm_fits
theorem ln_fits : ∀ ds Q, f_fits ds Q → ds.length = 4 := fun ds Q ⟨e, a, t, l, up, dn, h, _⟩ => by rw [h]; rfl
def f_top : FP := fun ds Q => ∃ (e : En) (cap a l : Int) (up dn : Rat), ds = [stD e, .int cap, .int a, .int l, numD up, numD dn] ∧ (EnW e ∧ (-100 ≤ cap ∧ cap ≤ 100) ∧ (-100 ≤ a ∧ a ≤ 100) ∧ (-100 ≤ l ∧ l ≤ 100) ∧ Bd 100 up ∧ Bd 100 dn) ∧ Q (.d (.int (topE up dn e cap a l)))
theorem fm_top : FMono f_top := ⟨fun ds Q Q' hq ⟨e, cap, a, l, up, dn, h1, h2, h⟩ => ⟨e, cap, a, l, up, dn, h1, h2, hq _ h⟩⟩
instance : FMono f_top := fm_top
theorem ln_top : ∀ ds Q, f_top ds Q → ds.length = 6 := fun ds Q ⟨e, cap, a, l, up, dn, h, _⟩ => by rw [h]; rfl
def f_jgears : FP := fun ds Q => ∃ (n : Nat) (c r d : Nat → Int), ds = [.list (lf (n + 1) c), .list (lf n r), .list (lf n d)] ∧ n ≤ 400 ∧ Q (.o (lf (n + 1) (gr n c r d)))
theorem fm_jgears : FMono f_jgears := ⟨fun ds Q Q' hq ⟨n, c, r, d, h1, h2, h⟩ => ⟨n, c, r, d, h1, h2, hq _ h⟩⟩
instance : FMono f_jgears := fm_jgears
theorem ln_jgears : ∀ ds Q, f_jgears ds Q → ds.length = 3 := fun ds Q ⟨n, c, r, d, h, _⟩ => by rw [h]; rfl
def f_quick : FP := fun ds Q => ∃ (ts : List Et) (l : Lim), ds = [.list (ts.map etD), numD l.pl, numD l.jt, numD l.up, numD l.dn] ∧ ((∀ t ∈ ts, EtW t) ∧ ts.length ≤ 400 ∧ LimOk l) ∧ Q (.o ((planL l ts).map g3D))
theorem fm_quick : FMono f_quick := ⟨fun ds Q Q' hq ⟨ts, l, h1, h2, h⟩ => ⟨ts, l, h1, h2, hq _ h⟩⟩
instance : FMono f_quick := fm_quick
theorem ln_quick : ∀ ds Q, f_quick ds Q → ds.length = 5 := fun ds Q ⟨ts, l, h, _⟩ => by rw [h]; rfl
/-! the law's own -/
def f_ljcaps : FP := fun ds Q => ∃ (ts : List Et) (pl jt : Rat), ds = [.list (ts.map etD), .list (ts.map fun t => faD t.e), numD pl, numD jt] ∧ ((∀ t ∈ ts, EtW t) ∧ ts.length ≤ 400 ∧ (0 < pl ∧ Bd 100 pl) ∧ 0 < jt ∧ Bd 100 jt) ∧ Q (.d (.list (lf (ts.length + 1) (jcaps pl jt ts))))
theorem fm_ljcaps : FMono f_ljcaps := ⟨fun ds Q Q' hq ⟨ts, pl, jt, h1, h2, h⟩ => ⟨ts, pl, jt, h1, h2, hq _ h⟩⟩
instance : FMono f_ljcaps := fm_ljcaps
theorem ln_ljcaps : ∀ ds Q, f_ljcaps ds Q → ds.length = 4 := fun ds Q ⟨ts, pl, jt, h, _⟩ => by rw [h]; rfl
def f_joltb : FB := bg0 10 numD (fun u => 0 < u ∧ Bd 60 u)
instance : BMono f_joltb := bm0
def f_limb : FB := fun xs ds Q => ∃ (n : Nat) (ts : List Et), BagOk n xs ∧ n + 60 ≤ mostDraws ∧ ds = [.list (ts.map etD), .list (ts.map fun t => faD t.e)] ∧ ((∀ t ∈ ts, EtOk t) ∧ ts.length ≤ 400) ∧ ∀ (l : Lim) xs', LimOk l → BagOk (n + 60) xs' → Q (.d (limD l)) xs'
theorem bm_limb : BMono f_limb := ⟨fun xs ds Q Q' hq ⟨n, ts, h1, h2, h3, h4, h⟩ => ⟨n, ts, h1, h2, h3, h4, fun l xs' a b => hq _ _ (h l xs' a b)⟩⟩
instance : BMono f_limb := bm_limb
theorem bl_limb : ∀ xs ds Q, f_limb xs ds Q → ds.length + 1 = 3 := fun xs ds Q ⟨n, ts, h1, h2, h3, _⟩ => by rw [h3]; rfl
def f_lchg : FP := fun ds Q => ∃ (t : Et) (b : Rat), ds = [etD t, faD t.e, numD b] ∧ (EtW t ∧ 0 < b ∧ Bd 100 b) ∧ Q (.d (.int (chg b t.e)))
theorem fm_lchg : FMono f_lchg := ⟨fun ds Q Q' hq ⟨e, b, h1, h2, h⟩ => ⟨e, b, h1, h2, hq _ h⟩⟩
instance : FMono f_lchg := fm_lchg
theorem ln_lchg : ∀ ds Q, f_lchg ds Q → ds.length = 3 := fun ds Q ⟨e, b, h, _⟩ => by rw [h]; rfl
def f_lgears : FP := fun ds Q => ∃ (n : Nat) (c r d : Nat → Int), ds = [.list (lf (n + 1) c), .list (lf n r), .list (lf n d)] ∧ (n ≤ 400 ∧ (∀ i, i ≤ n → 0 ≤ c i ∧ c i ≤ 9) ∧ (∀ k, k < n → 0 ≤ r k) ∧ ∀ k, k < n → 0 ≤ d k) ∧ Q (.o (lf (n + 1) (gr n c r d)))
theorem fm_lgears : FMono f_lgears := ⟨fun ds Q Q' hq ⟨n, c, r, d, h1, h2, h⟩ => ⟨n, c, r, d, h1, h2, hq _ h⟩⟩
instance : FMono f_lgears := fm_lgears
theorem ln_lgears : ∀ ds Q, f_lgears ds Q → ds.length = 3 := fun ds Q ⟨n, c, r, d, h, _⟩ => by rw [h]; rfl
def f_long : FP := fun ds Q => ∃ (b f : Rat × Rat) (r : Rat) (a t l : Int) (up dn : Rat), ds = [faD (.cut (.line b f) r), .tuple [.int a, .int t, .int l], numD up, numD dn] ∧ (Bd 30 r ∧ Gz a t l ∧ Bd 100 up ∧ Bd 100 dn) ∧ Q (.d (.bool (fitR r up dn a t l)))
theorem fm_long : FMono f_long := ⟨fun ds Q Q' hq ⟨b, f, r, a, t, l, up, dn, h1, h2, h⟩ => ⟨b, f, r, a, t, l, up, dn, h1, h2, hq _ h⟩⟩
instance : FMono f_long := fm_long
theorem ln_long : ∀ ds Q, f_long ds Q → ds.length = 4 := fun ds Q ⟨b, f, r, a, t, l, up, dn, h, _⟩ => by rw [h]; rfl
/-- what makes a top that can be told -/
def TopOk (l : Lim) (t : Et) (a b : Int) : Prop := match t.e with
  | .cut (.line _ _) r => max a b ≤ t.pace ∧ fitR r l.up l.dn a (max a b) b = true
  | _ => a = b
def f_ltop : FP := fun ds Q => ∃ (t : Et) (a b : Int) (l : Lim), ds = [etD t, faD t.e, .int a, .int b, limD l] ∧ (EtW t ∧ (0 ≤ a ∧ a ≤ 9) ∧ (0 ≤ b ∧ b ≤ 9) ∧ TopOk l t a b ∧ LimOk l) ∧ Q (.d (.int (topE l.up l.dn t.e (capOf l.pl t) a b)))
theorem fm_ltop : FMono f_ltop := ⟨fun ds Q Q' hq ⟨t, a, b, l, h1, h2, h⟩ => ⟨t, a, b, l, h1, h2, hq _ h⟩⟩
instance : FMono f_ltop := fm_ltop
theorem ln_ltop : ∀ ds Q, f_ltop ds Q → ds.length = 5 := fun ds Q ⟨t, a, b, l, h, _⟩ => by rw [h]; rfl
def mostF (m : Nat) (f : Nat → Int) (c : Nat → Int) : Nat → Int := fun i => min (c i) (if i < m then f i else 9)
def f_lquick : FP := fun ds Q => ∃ (ts : List Et) (l : Lim) (m : Nat) (f : Nat → Int), ds = [.list (ts.map etD), .list (ts.map fun t => faD t.e), limD l, .list (lf m f)] ∧ ((∀ t ∈ ts, EtW t) ∧ ts.length ≤ 400 ∧ LimOk l ∧ m ≤ 500 ∧ ∀ i, i < m → 0 ≤ f i) ∧ Q (.o ((planG l ts (gears l ts (mostF m f (jcaps l.pl l.jt ts)))).map g3D))
theorem fm_lquick : FMono f_lquick := ⟨fun ds Q Q' hq ⟨ts, l, m, f, h1, h2, h⟩ => ⟨ts, l, m, f, h1, h2, hq _ h⟩⟩
instance : FMono f_lquick := fm_lquick
theorem ln_lquick : ∀ ds Q, f_lquick ds Q → ds.length = 4 := fun ds Q ⟨ts, l, m, f, h, _⟩ => by rw [h]; rfl
def f_isdue : FP := fun ds Q => ∃ ps : List (Int × Int × Int), ds = [.list (ps.map g3D), .list (ps.map g3D)] ∧ (ps.length ≤ 500 ∧ ∀ p ∈ ps, Gz p.1 p.2.1 p.2.2) ∧ Q (.d (.bool true))
theorem fm_isdue : FMono f_isdue := ⟨fun ds Q Q' hq ⟨ks, h1, h2, h⟩ => ⟨ks, h1, h2, hq _ h⟩⟩
instance : FMono f_isdue := fm_isdue
theorem ln_isdue : ∀ ds Q, f_isdue ds Q → ds.length = 2 := fun ds Q ⟨ks, e, _⟩ => by rw [e]; rfl
theorem top_same {up dn : Rat} {e : En} {cap a : Int} (h : ∀ b f r, e ≠ .cut (.line b f) r) (_h : True = True) : topE up dn e cap a a = a := by
  have hf : fitE up dn e a a (max a a + 1) = false := by
    unfold fitE
    split
    · rename_i b f r
      exact absurd rfl (h b f r)
    · rw [decide_eq_false (show ¬ a = max a a + 1 by omega)]
      rfl
  rw [topE, climb_miss hf]
  omega
theorem bools_const {α : Type} (ts : List α) (b : Bool) : bools (ts.map fun _ => PyData.bool b) = some (ts.map fun _ => b) := by
  induction ts with
  | nil => rfl
  | cons t r ih =>
    show (bools (r.map fun _ => PyData.bool b)).map (b :: ·) = _
    rw [ih]
    rfl
theorem all_const {α : Type} (ts : List α) : (ts.map fun _ => true).all id = true := by
  induction ts with
  | nil => rfl
  | cons t r ih => rw [List.map_cons, List.all_cons, ih]; rfl
theorem any_const {α : Type} (ts : List α) : (ts.map fun _ => false).any id = false := by
  induction ts with
  | nil => rfl
  | cons t r ih => rw [List.map_cons, List.any_cons, ih]; rfl
end DL

/-! DMd: plans: plain lemmas -/
namespace DL
open PySem PySem.Spec L2 DM
theorem jc_list {pl jt : Rat} {ts : List Et} {n : Nat} (h : ts.length = n + 1) : PyData.int 0 :: (lf n (fun i => jcaps pl jt ts (i + 1)) ++ [PyData.int 0]) = lf (n + 2) (jcaps pl jt ts) := by
  refine lf_ext (by rw [List.length_cons, List.length_append, lf_len]; rfl) fun i hi => ?_
  cases i with
  | zero => rfl
  | succ i =>
    rw [List.getElem?_cons_succ]
    rcases Nat.lt_or_ge i n with z | z
    · rw [List.getElem?_append_left (by rw [lf_len]; exact z), lf_get z]
    · have e : i = n := by omega
      subst e
      rw [List.getElem?_append_right (by rw [lf_len]; exact Nat.le_refl _), lf_len, Nat.sub_self]
      have ej : jcaps pl jt ts (i + 1) = 0 := by
        show (match ts[i]?, ts[i + 1]? with | some a, some b => jcap pl jt a b | _, _ => 0) = _
        rw [show ts[i + 1]? = none from List.getElem?_eq_none (by omega)]
        split <;> simp_all
      rw [ej]
      rfl
theorem last_filter {p : Nat → Bool} {n : Nat} (F : Nat → PyData) (h : ∃ k, k < n ∧ p k = true) : ∃ k, k < n ∧ p k = true ∧ (∀ j, j < n → p j = true → j ≤ k) ∧ atI (((List.range n).filter p).map F) (-1) = some (F k) := by
  induction n with
  | zero => obtain ⟨k, hk, _⟩ := h; omega
  | succ n ih =>
    rw [List.range_succ, List.filter_append]
    cases e : p n
    · rw [List.filter_cons_of_neg (by rw [e]; decide), List.filter_nil, List.append_nil]
      obtain ⟨k, hk, hp⟩ := h
      have hk' : k < n := by
        rcases Nat.lt_or_ge k n with z | z
        · exact z
        · rw [show k = n by omega, e] at hp
          exact nomatch hp
      obtain ⟨m, h1, h2, h3, h4⟩ := ih ⟨k, hk', hp⟩
      refine ⟨m, by omega, h2, fun j hj hp => ?_, h4⟩
      rcases Nat.lt_or_ge j n with z | z
      · exact h3 j z hp
      · rw [show j = n by omega, e] at hp
        exact nomatch hp
    · rw [List.filter_cons_of_pos e, List.filter_nil, List.map_append]
      exact ⟨n, by omega, e, fun j hj _ => by omega, atI_last _ _⟩
theorem fitR_down {r up dn : Rat} {a t l : Int} (hu : 0 < up) (hd : 0 < dn) (h : fitR r up dn a (t + 1) l = true) : fitR r up dn a t l = true := by
  unfold fitR at *
  have h := of_decide_eq_true h
  refine decide_eq_true ?_
  have e1 : ((t + 1 - a : Int) : Rat) = ((t - a : Int) : Rat) + 1 := by rw [show t + 1 - a = (t - a) + 1 by omega, Rat.intCast_add]; rfl
  have e2 : ((t + 1 - l : Int) : Rat) = ((t - l : Int) : Rat) + 1 := by rw [show t + 1 - l = (t - l) + 1 by omega, Rat.intCast_add]; rfl
  rw [e1, e2] at h
  grind
theorem topE_line {l : Lim} {b f : Rat × Rat} {r : Rat} {cap a c : Int} {k : Nat} (hu : 0 < l.up) (hd : 0 < l.dn) (hk : k < (cap + 1 - max a c).toNat) (hp : fitR r l.up l.dn a (max a c + (k : Nat)) c = true)
    (ht : ∀ j, j < (cap + 1 - max a c).toNat → fitR r l.up l.dn a (max a c + (j : Nat)) c = true → j ≤ k) : topE l.up l.dn (.cut (.line b f) r) cap a c = max a c + (k : Nat) := by
  have fe : ∀ t, max a c ≤ t → fitE l.up l.dn (.cut (.line b f) r) a c t = fitR r l.up l.dn a t c := fun t h => by
    show (decide (a ≤ t) && decide (c ≤ t) && fitR r l.up l.dn a t c) = _
    rw [decide_eq_true (show a ≤ t by omega), decide_eq_true (show c ≤ t by omega)]
    rfl
  refine climb_eq (fun x hx h => ?_) (by omega) (by omega) (by rw [fe _ (by omega)]; exact hp) fun y h1 h2 h3 => ?_
  · rw [fe _ (by omega)] at h ⊢
    exact fitR_down hu hd h
  · rw [fe _ h1] at h3
    have := ht (y - max a c).toNat (by omega) (by rw [show max a c + ((y - max a c).toNat : Nat) = y by omega]; exact h3)
    omega
theorem lf_chg (b : Rat) (ts : List Et) : (ts.map fun t => PyData.int (chg b t.e)) = lf ts.length (chgs b ts) := lf_ext (by rw [List.length_map]) fun i hi => by
  rw [List.getElem?_map, List.getElem?_eq_getElem hi]
  show some (PyData.int (chg b ts[i].e)) = _
  rw [chgs, getD_of (List.getElem?_eq_getElem hi)]
theorem half_num : (Rat.divInt 1 2).num = 1 ∧ (Rat.divInt 1 2).den = 2 := by decide
theorem lim_half : PyData.tuple [numD ((2 : Int) : Rat), numD ((1 : Int) : Rat), numD ((1 : Int) : Rat), PyData.tuple [PyData.int 1, PyData.int 2]] = limD ⟨((2 : Int) : Rat), ((1 : Int) : Rat), ((1 : Int) : Rat), Rat.divInt 1 2⟩ := by
  show _ = PyData.tuple [numD ((2 : Int) : Rat), numD ((1 : Int) : Rat), numD ((1 : Int) : Rat), numD (Rat.divInt 1 2)]
  rw [show numD (Rat.divInt 1 2) = PyData.tuple [PyData.int 1, PyData.int 2] by unfold numD; rw [half_num.1, half_num.2]; rfl]
theorem lim0_ok : LimOk ⟨((2 : Int) : Rat), ((1 : Int) : Rat), ((1 : Int) : Rat), Rat.divInt 1 2⟩ :=
  ⟨⟨by decide, Bd.int (by decide) (by decide)⟩, ⟨by decide, Bd.int (by decide) (by decide)⟩, ⟨by decide, Bd.int (by decide) (by decide)⟩, dI_pos (by decide) (by decide), bd_divInt (by decide) (by decide) (by decide)⟩
theorem planG_len (l : Lim) (ts : List Et) (G : Nat → Int) : (planG l ts G).length = ts.length := by rw [planG, List.length_map, List.length_range]
theorem planG_get {l : Lim} {ts : List Et} {G : Nat → Int} {j : Nat} {t : Et} (h : ts[j]? = some t) : (planG l ts G)[j]? = some (G j, topE l.up l.dn t.e (capOf l.pl t) (G j) (G (j + 1)), G (j + 1)) := by
  rw [planG, List.getElem?_map, List.getElem?_range (get_lt h)]
  show some (G j, topE l.up l.dn (ts.getD j et0).e (capOf l.pl (ts.getD j et0)) (G j) (G (j + 1)), G (j + 1)) = _
  rw [getD_of h]
theorem flat_nines (k : Nat) : (List.replicate ((k : Int)).toNat [PyData.int 9]).flatten.length = k := by
  rw [Int.toNat_natCast]
  induction k with
  | zero => rfl
  | succ k ih => rw [List.replicate_succ, List.flatten_cons, List.length_append, ih]; simp; omega
theorem nine_get {k i : Nat} (h : i < k) : (List.replicate ((k : Int)).toNat [PyData.int 9]).flatten[i]? = some (PyData.int 9) := by
  rw [Int.toNat_natCast]
  induction k generalizing i with
  | zero => omega
  | succ k ih =>
    rw [List.replicate_succ, List.flatten_cons]
    cases i with
    | zero => rfl
    | succ i => exact ih (by omega)
theorem nines_get {m n j : Nat} {f : Nat → Int} (h : j < n) : (lf m f ++ (List.replicate ((n : Int)).toNat [PyData.int 9]).flatten)[j]? = some (PyData.int (if j < m then f j else 9)) := by
  by_cases e : j < m
  · rw [List.getElem?_append_left (by rw [lf_len]; exact e), lf_get e, if_pos e]
  · rw [List.getElem?_append_right (by rw [lf_len]; omega), lf_len, nine_get (by omega), if_neg e]
theorem jcaps_cap {pl jt : Rat} {ts : List Et} {k : Nat} {t : Et} (h : ∀ t ∈ ts, EtW t) (e : ts[k]? = some t) : jcaps pl jt ts k ≤ capOf pl t ∧ jcaps pl jt ts (k + 1) ≤ capOf pl t := by
  have c := cap_in (pl := pl) (h t (List.mem_of_getElem? e))
  constructor
  · cases k with
    | zero => exact c.1
    | succ k =>
      show (match ts[k]?, ts[k + 1]? with | some a, some b => jcap pl jt a b | _, _ => 0) ≤ _
      rw [e]
      split
      · rename_i a b e1 e2
        cases e2
        exact Int.le_trans (Int.min_le_left _ _) (Int.min_le_right _ _)
      · exact c.1
  · show (match ts[k]?, ts[k + 1]? with | some a, some b => jcap pl jt a b | _, _ => 0) ≤ _
    rw [e]
    split
    · rename_i a b e1 e2
      cases e1
      exact Int.le_trans (Int.min_le_left _ _) (Int.min_le_left _ _)
    · exact c.1
theorem le_floor_mul {x : Int} {r b : Rat} (hb : 0 < b) (h : x ≤ (r / b).floor) : (x : Rat) * b ≤ r := by
  rw [Rat.le_floor_iff] at h
  have e : r / b * b = r := by
    have : b ≠ 0 := by grind
    grind
  have := Rat.mul_nonneg (show 0 ≤ r / b - (x : Rat) by grind) (show 0 ≤ b by grind)
  grind
theorem top_ok {l : Lim} {ts : List Et} {c G : Nat → Int} {j : Nat} {t : Et} (hlim : LimOk l) (ht : ∀ t ∈ ts, EtW t) (hs : Sol ts.length c (chgs l.up ts) (chgs l.dn ts) G) (h0 : ∀ i, i ≤ ts.length → 0 ≤ G i) (e : ts[j]? = some t) (hc : ∀ i, c i ≤ jcaps l.pl l.jt ts i) : TopOk l t (G j) (G (j + 1)) := by
  have hj := get_lt e
  have j1 := jcaps_cap (pl := l.pl) (jt := l.jt) ht e
  have a1 := hs.le j (by omega)
  have a2 := hs.le (j + 1) (by omega)
  have b1 := hc j
  have b2 := hc (j + 1)
  have u := hs.up j hj
  have d := hs.dn j hj
  unfold chgs at u d
  rw [getD_of e] at u d
  obtain ⟨en, pace, num⟩ := t
  rcases en with ⟨b, f⟩ | ⟨⟨b, f⟩ | ⟨b, f, o, w⟩, r⟩
  · have u : G (j + 1) ≤ G j + 0 := u
    have d : G j ≤ G (j + 1) + 0 := d
    show G j = G (j + 1)
    omega
  · have u : G (j + 1) ≤ G j + (r / l.up).floor := u
    have d : G j ≤ G (j + 1) + (r / l.dn).floor := d
    have j1 : jcaps l.pl l.jt ts j ≤ pace ∧ jcaps l.pl l.jt ts (j + 1) ≤ pace := j1
    refine ⟨show max (G j) (G (j + 1)) ≤ pace by omega, ?_⟩
    have z : ((0 : Int) : Rat) = 0 := rfl
    refine decide_eq_true ?_
    rcases (show max (G j) (G (j + 1)) = G j ∨ max (G j) (G (j + 1)) = G (j + 1) by omega) with m | m
    · rw [m, show G j - G j = 0 by omega, z]
      have := le_floor_mul (x := G j - G (j + 1)) (r := r) hlim.2.2.2.1 (by omega)
      grind
    · rw [m, show G (j + 1) - G (j + 1) = 0 by omega, z]
      have := le_floor_mul (x := G (j + 1) - G j) (r := r) hlim.2.2.1.1 (by omega)
      grind
  · have u : G (j + 1) ≤ G j + 0 := u
    have d : G j ≤ G (j + 1) + 0 := d
    show G j = G (j + 1)
    omega
theorem cut_mid {xs : List PyData} {i j : Nat} (h : i ≤ j) (hj : j ≤ xs.length) : cutD xs (some (i : Int)) (some (j : Int)) = (xs.drop i).take (j - i) := by
  unfold cutD
  show (xs.drop (if (i : Int) < 0 then ((i : Int) + (xs.length : Int)).toNat else min ((i : Int)).toNat xs.length)).take ((if (j : Int) < 0 then ((j : Int) + (xs.length : Int)).toNat else min ((j : Int)).toNat xs.length) - (if (i : Int) < 0 then ((i : Int) + (xs.length : Int)).toNat else min ((i : Int)).toNat xs.length)) = _
  rw [if_neg (by omega), if_neg (by omega), Int.toNat_natCast, Int.toNat_natCast, Nat.min_eq_left (by omega), Nat.min_eq_left (by omega)]
theorem lf_cut2 {n k : Nat} {g : Nat → Int} (h : k < n) : cutD (lf (n + 1) g) (some (k : Int)) (some ((k : Int) + 2)) = [PyData.int (g k), PyData.int (g (k + 1))] := by
  rw [show ((k : Int) + 2) = ((k + 2 : Nat) : Int) from rfl, cut_mid (by omega) (by rw [lf_len]; omega), show k + 2 - k = 2 by omega]
  apply List.ext_getElem?
  intro i
  match i with
  | 0 => rw [List.getElem?_take_of_lt (by omega), List.getElem?_drop, Nat.add_zero, lf_get (by omega)]; rfl
  | 1 => rw [List.getElem?_take_of_lt (by omega), List.getElem?_drop, lf_get (by omega)]; rfl
  | i + 2 => rw [List.getElem?_eq_none (by rw [List.length_take]; omega)]; rfl
theorem lf_put2 {n k : Nat} {g : Nat → Int} {X Y : Int} (h : k < n) : List.take ((k : Int)).toNat (lf (n + 1) g) ++ [PyData.int X, PyData.int Y] ++ List.drop ((k : Int) + 2).toNat (lf (n + 1) g) = lf (n + 1) (up1 (up1 g k X) (k + 1) Y) := by
  rw [Int.toNat_natCast, show ((k : Int) + 2).toNat = k + 2 by omega]
  have l1 : (List.take k (lf (n + 1) g)).length = k := by rw [List.length_take, lf_len]; omega
  refine lf_ext (by simp only [List.length_append, List.length_take, List.length_drop, lf_len, List.length_cons, List.length_nil]; omega) fun i hi => ?_
  rcases (show i < k ∨ i = k ∨ i = k + 1 ∨ k + 2 ≤ i by omega) with z | z | z | z
  · rw [List.append_assoc, List.getElem?_append_left (by omega), List.getElem?_take_of_lt z, lf_get hi, up1, if_neg (by omega), up1, if_neg (by omega)]
  · subst z
    rw [List.append_assoc, List.getElem?_append_right (by omega), l1, Nat.sub_self, up1, if_neg (by omega), up1, if_pos rfl]
    rfl
  · subst z
    rw [List.append_assoc, List.getElem?_append_right (by omega), l1, show k + 1 - k = 1 by omega, up1, if_pos rfl]
    rfl
  · have l2 : (List.take k (lf (n + 1) g) ++ [PyData.int X, PyData.int Y]).length = k + 2 := by rw [List.length_append, l1]; rfl
    rw [List.getElem?_append_right (by omega), l2, List.getElem?_drop, show k + 2 + (i - (k + 2)) = i by omega, lf_get hi, up1, if_neg (by omega), up1, if_neg (by omega)]
theorem lf_snoc {n : Nat} {f : Nat → Int} : lf (n + 1) f = lf n f ++ [.int (f n)] := by
  rw [lf, List.range_succ, List.map_append]
  rfl
theorem num_half : PyData.tuple [PyData.int 1, PyData.int 2] = numD (Rat.divInt 1 2) := by
  unfold numD
  rw [half_num.1, half_num.2]
  rfl
theorem two_less (w : Rat) : Rat.divInt (2 * (w.den : Int) - 2 * w.num) (w.den : Int) = 2 - 2 * w := by
  have hz := DL.rz (show 0 < (w.den : Int) by have := w.den_pos; omega)
  have e : w = (w.num : Rat) / ((w.den : Int) : Rat) := by rw [← Rat.divInt_eq_div]; exact (Rat.num_divInt_den _).symm
  rw [Rat.divInt_eq_div, Rat.intCast_sub, Rat.intCast_mul, Rat.intCast_mul, show (((2 : Int)) : Rat) = 2 from rfl]
  generalize (w.num : Rat) = A at *
  generalize ((w.den : Int) : Rat) = B at *
  rw [e]
  grind
theorem plan_most0 {l : Lim} {ts : List Et} {f : Nat → Int} (ht : ∀ t ∈ ts, EtW t) : planG l ts (gears l ts (mostF 0 f (jcaps l.pl l.jt ts))) = planL l ts := by
  unfold planL
  have e : ∀ i, i ≤ ts.length → gears l ts (mostF 0 f (jcaps l.pl l.jt ts)) i = gears l ts (jcaps l.pl l.jt ts) i := fun i hi => gr_congr (fun k _ => by
    have := jcaps_in (pl := l.pl) (jt := l.jt) ht k
    unfold mostF
    rw [if_neg (Nat.not_lt_zero _)]
    omega) (fun _ _ => rfl) (fun _ _ => rfl) hi
  unfold planG
  refine List.map_congr_left fun i hi => ?_
  have hi := List.mem_range.mp hi
  rw [e i (by omega), e (i + 1) (by omega)]
theorem planL_ok {l : Lim} {ts : List Et} (hlim : LimOk l) (ht : ∀ t ∈ ts, EtW t) (hl : ts.length ≤ 400) : (planL l ts).length ≤ 500 ∧ ∀ p ∈ planL l ts, Gz p.1 p.2.1 p.2.2 := by
  refine ⟨by unfold planL; rw [planG_len]; omega, fun p hp => ?_⟩
  unfold planL at hp
  have gin : ∀ i, i ≤ ts.length → 0 ≤ gears l ts (jcaps l.pl l.jt ts) i ∧ gears l ts (jcaps l.pl l.jt ts) i ≤ 9 := fun i hi => by
    have g := gr_grt (n := ts.length) (c := jcaps l.pl l.jt ts) (r := chgs l.up ts) (d := chgs l.dn ts) (fun k _ => chgs_nn hlim.2.2.1.1 ht k) (fun k _ => chgs_nn hlim.2.2.2.1 ht k)
    have g1 := gr_nn (n := ts.length) (c := jcaps l.pl l.jt ts) (r := chgs l.up ts) (d := chgs l.dn ts) (fun k _ => (jcaps_in ht k).1) (fun k _ => chgs_nn hlim.2.2.1.1 ht k) (fun k _ => chgs_nn hlim.2.2.2.1 ht k) hi
    have g2 := g.sol.le i hi
    have g3 := jcaps_in (pl := l.pl) (jt := l.jt) ht i
    unfold gears
    omega
  generalize gears l ts (jcaps l.pl l.jt ts) = G at *
  unfold planG at hp
  obtain ⟨i, hi, rfl⟩ := List.mem_map.mp hp
  have hi := List.mem_range.mp hi
  have a := gin i (by omega)
  have b := gin (i + 1) (by omega)
  have w := getD_w ht i
  have c := cap_in (pl := l.pl) w
  have c2 := w.2.1
  have t := climb_ge (p := fitE l.up l.dn (ts.getD i et0).e (G i) (G (i + 1))) (n := (capOf l.pl (ts.getD i et0) - max (G i) (G (i + 1))).toNat) (t := max (G i) (G (i + 1)))
  refine ⟨by simp only; omega, ?_, by simp only; omega⟩
  show -1000 ≤ topE l.up l.dn (ts.getD i et0).e (capOf l.pl (ts.getD i et0)) (G i) (G (i + 1)) ∧ topE l.up l.dn (ts.getD i et0).e (capOf l.pl (ts.getD i et0)) (G i) (G (i + 1)) ≤ 1000
  unfold topE
  omega
end DL

/-! DMe: ways turned about: the plain law of k76 -/
namespace DL
open PySem PySem.Spec L2 DM
/-! ### plans of ways that are alike -/
structure Alike (l l' : Lim) (t t' : Et) : Prop where
  cap : capOf l'.pl t' = capOf l.pl t
  up : chg l'.up t'.e = chg l.up t.e
  dn : chg l'.dn t'.e = chg l.dn t.e
  fit : ∀ a b t0, fitE l'.up l'.dn t'.e a b t0 = fitE l.up l.dn t.e a b t0
theorem map_getD {f : Et → Et} {ts : List Et} {i : Nat} (h : i < ts.length) : (ts.map f).getD i et0 = f (ts.getD i et0) := by
  rw [List.getD_eq_getElem?_getD, List.getD_eq_getElem?_getD, List.getElem?_map, List.getElem?_eq_getElem h]
  rfl
theorem getD_mem {ts : List Et} {i : Nat} (h : i < ts.length) : ts.getD i et0 ∈ ts := by
  rw [List.getD_eq_getElem?_getD, List.getElem?_eq_getElem h]
  exact List.getElem_mem h
theorem jcaps_map {pl jt pl' jt' : Rat} {ts : List Et} {f : Et → Et} (h : ∀ a ∈ ts, ∀ b ∈ ts, jcap pl' jt' (f a) (f b) = jcap pl jt a b) (k : Nat) : jcaps pl' jt' (ts.map f) k = jcaps pl jt ts k := by
  cases k with
  | zero => rfl
  | succ k =>
    show (match (ts.map f)[k]?, (ts.map f)[k + 1]? with | some a, some b => jcap pl' jt' a b | _, _ => 0) = (match ts[k]?, ts[k + 1]? with | some a, some b => jcap pl jt a b | _, _ => 0)
    rw [List.getElem?_map, List.getElem?_map]
    cases e1 : ts[k]? with
    | none => rfl
    | some a =>
      cases e2 : ts[k + 1]? with
      | none => rfl
      | some b => exact h a (List.mem_of_getElem? e1) b (List.mem_of_getElem? e2)
theorem plan_map {l l' : Lim} {ts : List Et} {f : Et → Et} (h : ∀ t ∈ ts, Alike l l' t (f t)) (hj : ∀ a ∈ ts, ∀ b ∈ ts, joltOf l'.jt (f a).e (f b).e = joltOf l.jt a.e b.e) : planL l' (ts.map f) = planL l ts := by
  have hc : ∀ k, jcaps l'.pl l'.jt (ts.map f) k = jcaps l.pl l.jt ts k := fun k => jcaps_map (fun a ha b hb => by
    unfold jcap
    rw [(h a ha).cap, (h b hb).cap, hj a ha b hb]) k
  have hg : ∀ i, i ≤ ts.length → gears l' (ts.map f) (jcaps l'.pl l'.jt (ts.map f)) i = gears l ts (jcaps l.pl l.jt ts) i := fun i hi => by
    unfold gears
    rw [List.length_map]
    refine gr_congr (fun k _ => hc k) (fun k hk => ?_) (fun k hk => ?_) hi
    · unfold chgs
      rw [map_getD hk]
      exact (h _ (getD_mem hk)).up
    · unfold chgs
      rw [map_getD hk]
      exact (h _ (getD_mem hk)).dn
  unfold planL planG
  rw [List.length_map]
  refine List.map_congr_left fun i hi => ?_
  have hi := List.mem_range.mp hi
  have a := h _ (getD_mem hi)
  rw [hg i (by omega), hg (i + 1) (by omega), map_getD hi]
  unfold topE
  rw [a.cap, show fitE l'.up l'.dn (f (ts.getD i et0)).e (gears l ts (jcaps l.pl l.jt ts) i) (gears l ts (jcaps l.pl l.jt ts) (i + 1)) = fitE l.up l.dn (ts.getD i et0).e (gears l ts (jcaps l.pl l.jt ts) i) (gears l ts (jcaps l.pl l.jt ts) (i + 1)) from funext fun t0 => a.fit _ _ t0]
/-! ### led ways -/
def ledP (k by_ : Int) (p : Rat × Rat) : Rat × Rat := if k = 0 then (p.1, -p.2) else if k = 1 then (-p.2 + (by_ : Rat), p.1 + ((0 - 3 * by_ : Int) : Rat)) else (p.1 * (by_ : Rat), p.2 * (by_ : Rat))
def ledC (k by_ : Int) : Ct → Ct
  | .line b f => .line (ledP k by_ b) (ledP k by_ f)
  | .arc b f o w => .arc (ledP k by_ b) (ledP k by_ f) (ledP k by_ o) (if k = 0 then -w else w)
def ledE (k by_ : Int) : En → En
  | .hop b f => .hop (ledP k by_ b) (ledP k by_ f)
  | .cut ct r => .cut (ledC k by_ ct) (if k = 2 then r * (by_ : Rat) else r)
def ledT (k by_ : Int) (t : Et) : Et := ⟨ledE k by_ t.e, t.pace, t.num⟩
def ledH (k : Int) (u : Rat × Rat) : Rat × Rat := if k = 0 then (u.1, -u.2) else if k = 1 then (-u.2, u.1) else u
def K3 (k by_ : Int) : Prop := (k = 0 ∨ k = 1 ∨ k = 2) ∧ (2 ≤ by_ ∧ by_ ≤ 4)
theorem ledH_inj {k : Int} {u v : Rat × Rat} (h : ledH k u = ledH k v) : u = v := by
  obtain ⟨u1, u2⟩ := u
  obtain ⟨v1, v2⟩ := v
  unfold ledH at h
  split at h
  · simp only [Prod.mk.injEq] at h ⊢
    exact ⟨h.1, by have := h.2; grind⟩
  · split at h
    · simp only [Prod.mk.injEq] at h ⊢
      exact ⟨h.2, by have := h.1; grind⟩
    · exact h
theorem ledH_dot {k : Int} {u v : Rat × Rat} : dotR (ledH k u) (ledH k v) = dotR u v := by
  unfold ledH dotR
  split
  · simp only; grind
  · split
    · simp only; grind
    · rfl
theorem led_hd {k by_ : Int} {r : Rat} {ct : Ct} (h : K3 k by_) (hr : 0 < r) : hd0 (if k = 2 then r * (by_ : Rat) else r) (ledC k by_ ct) = ledH k (hd0 r ct) ∧ hd1 (if k = 2 then r * (by_ : Rat) else r) (ledC k by_ ct) = ledH k (hd1 r ct) := by
  obtain ⟨hk, hb1, hb2⟩ := h
  have rz' : r ≠ 0 := by grind
  rcases hk with rfl | rfl | rfl
  · cases ct with
    | line b f => constructor <;> (simp only [hd0, hd1, ledC, ledP, ledH, if_true, if_neg (show ¬ (0 : Int) = 2 by decide), Prod.mk.injEq]; exact ⟨by grind, by grind⟩)
    | arc b f o w => constructor <;> (simp only [hd0, hd1, ledC, ledP, ledH, if_true, if_neg (show ¬ (0 : Int) = 2 by decide), Prod.mk.injEq, Rat.intCast_neg]; exact ⟨by grind, by grind⟩)
  · cases ct with
    | line b f => constructor <;> (simp only [hd0, hd1, ledC, ledP, ledH, if_true, if_neg (show ¬ (1 : Int) = 2 by decide), if_neg (show ¬ (1 : Int) = 0 by decide), Prod.mk.injEq]; exact ⟨by grind, by grind⟩)
    | arc b f o w => constructor <;> (simp only [hd0, hd1, ledC, ledP, ledH, if_true, if_neg (show ¬ (1 : Int) = 2 by decide), if_neg (show ¬ (1 : Int) = 0 by decide), Prod.mk.injEq]; exact ⟨by grind, by grind⟩)
  · have bz : (by_ : Rat) ≠ 0 := DL.rz (show 0 < by_ by omega)
    cases ct with
    | line b f => constructor <;> (simp only [hd0, hd1, ledC, ledP, ledH, if_true, if_neg (show ¬ (2 : Int) = 0 by decide), if_neg (show ¬ (2 : Int) = 1 by decide), Prod.mk.injEq]; generalize (by_ : Rat) = B at *; exact ⟨by grind, by grind⟩)
    | arc b f o w => constructor <;> (simp only [hd0, hd1, ledC, ledP, ledH, if_true, if_neg (show ¬ (2 : Int) = 0 by decide), if_neg (show ¬ (2 : Int) = 1 by decide), Prod.mk.injEq]; generalize (by_ : Rat) = B at *; generalize (w : Rat) = W at *; exact ⟨by grind, by grind⟩)
theorem cut_pos {ct : Ct} {r : Rat} {n : Nat} (h : CtOk n r ct) : 0 < r := by
  cases ct with
  | line b f => exact h.2.1
  | arc b f o w => exact h.2.2.1
theorem bcLed {k by_ : Int} {p : Rat × Rat} (h : K3 k by_) (hp : Bc 61 p) : Bc 70 (ledP k by_ p) := by
  obtain ⟨a, b, d, hd, e1, e2, h1, h2, h3⟩ := hp
  obtain ⟨hk, hb1, hb2⟩ := h
  have z := DL.rz hd
  have t61 : (2 : Nat) ^ 61 = 2305843009213693952 := by decide
  have t70 : (2 : Nat) ^ 70 = 1180591620717411303424 := by decide
  rcases hk with rfl | rfl | rfl
  · refine ⟨a, -b, d, hd, ?_, ?_, by omega, by omega, by omega⟩
    · exact e1
    · show -p.2 = _
      rw [e2, DL.dI_neg]
  · refine ⟨-b + by_ * d, a + (0 - 3 * by_) * d, d, hd, ?_, ?_, ?_, ?_, by omega⟩
    · show -p.2 + (by_ : Rat) = _
      rw [e2]
      simp only [Rat.divInt_eq_div, Rat.intCast_add, Rat.intCast_mul, Rat.intCast_neg]
      grind
    · show p.1 + ((0 - 3 * by_ : Int) : Rat) = _
      rw [e1]
      generalize (0 - 3 * by_ : Int) = c
      simp only [Rat.divInt_eq_div, Rat.intCast_add, Rat.intCast_mul]
      grind
    · have : (by_ * d).natAbs ≤ 4 * d.natAbs := by rw [Int.natAbs_mul]; exact Nat.mul_le_mul (by omega) (Nat.le_refl _)
      omega
    · have : ((0 - 3 * by_) * d).natAbs ≤ 12 * d.natAbs := by rw [Int.natAbs_mul]; exact Nat.mul_le_mul (by omega) (Nat.le_refl _)
      omega
  · refine ⟨a * by_, b * by_, d, hd, ?_, ?_, ?_, ?_, by omega⟩
    · show p.1 * (by_ : Rat) = _
      rw [e1]
      simp only [Rat.divInt_eq_div, Rat.intCast_mul]
      grind
    · show p.2 * (by_ : Rat) = _
      rw [e2]
      simp only [Rat.divInt_eq_div, Rat.intCast_mul]
      grind
    · have : (a * by_).natAbs ≤ a.natAbs * 4 := by rw [Int.natAbs_mul]; exact Nat.mul_le_mul (Nat.le_refl _) (by omega)
      omega
    · have : (b * by_).natAbs ≤ b.natAbs * 4 := by rw [Int.natAbs_mul]; exact Nat.mul_le_mul (Nat.le_refl _) (by omega)
      omega
theorem by_bd {by_ : Int} (h : 2 ≤ by_ ∧ by_ ≤ 4) : Bd 5 (by_ : Rat) := Bd.int (show _ < 32 by omega) (by decide)
theorem led_w {k by_ : Int} {t : Et} (h : K3 k by_) (ht : EtOk t) : EtW (ledT k by_ t) := by
  obtain ⟨he, hp, hn⟩ := ht
  refine ⟨?_, hp, hn⟩
  obtain ⟨e, pace, num⟩ := t
  cases e with
  | hop b f => exact ⟨(bcLed h he.1).mono (by decide), (bcLed h he.2).mono (by decide)⟩
  | cut ct r =>
    obtain ⟨h1, h2, ⟨h3, h4⟩, h5, h6⟩ := he
    have r0 : 0 < r := cut_pos h1
    have hb := by_bd h.2
    have b0 : (0 : Rat) < (by_ : Rat) := by
      rw [show (0 : Rat) = ((0 : Int) : Rat) from rfl]
      exact Rat.intCast_lt_intCast.mpr (by have := h.2; omega)
    obtain ⟨e0, e1⟩ := led_hd (ct := ct) h r0
    have hbd : ∀ u : Rat × Rat, Bd2 20 u → Bd2 40 (ledH k u) := fun u hu => by
      unfold ledH
      split
      · exact ⟨hu.1.mono (by decide), hu.2.neg.mono (by decide)⟩
      · split
        · exact ⟨hu.2.neg.mono (by decide), hu.1.mono (by decide)⟩
        · exact ⟨hu.1.mono (by decide), hu.2.mono (by decide)⟩
    have hun : ∀ u : Rat × Rat, u.1 * u.1 + u.2 * u.2 = 1 → (ledH k u).1 * (ledH k u).1 + (ledH k u).2 * (ledH k u).2 = 1 := fun u hu => by
      have := ledH_dot (k := k) (u := u) (v := u)
      unfold dotR at this
      rw [this]
      exact hu
    refine ⟨?_, ?_, ?_, ?_⟩
    · have key : ∀ a b : Rat × Rat, r * r = dt (sb2 a b) (sb2 a b) → (if k = 2 then r * (by_ : Rat) else r) * (if k = 2 then r * (by_ : Rat) else r) = dt (sb2 (ledP k by_ a) (ledP k by_ b)) (sb2 (ledP k by_ a) (ledP k by_ b)) := by
        intro a b e
        obtain ⟨hk, _⟩ := h
        simp only [dt, sb2] at e ⊢
        rcases hk with rfl | rfl | rfl
        · simp only [ledP, if_true, if_neg (show ¬ (0 : Int) = 2 by decide)]
          grind
        · simp only [ledP, if_true, if_neg (show ¬ (1 : Int) = 2 by decide), if_neg (show ¬ (1 : Int) = 0 by decide)]
          grind
        · simp only [ledP, if_true, if_neg (show ¬ (2 : Int) = 0 by decide), if_neg (show ¬ (2 : Int) = 1 by decide)]
          generalize (by_ : Rat) = B at *
          grind
      have r1 : 0 < (if k = 2 then r * (by_ : Rat) else r) := by
        split
        · exact Rat.mul_pos r0 b0
        · exact r0
      cases ct with
      | line b f => exact ⟨⟨(bcLed h h1.1.1).mono (by decide), (bcLed h h1.1.2).mono (by decide)⟩, r1, key _ _ h1.2.2⟩
      | arc b f o w => exact ⟨⟨(bcLed h h1.1.1).mono (by decide), (bcLed h h1.1.2.1).mono (by decide), (bcLed h h1.1.2.2).mono (by decide)⟩, by have := h1.2.1; split <;> omega, r1, key _ _ h1.2.2.2.1, key _ _ h1.2.2.2.2⟩
    · show Bd 30 (if k = 2 then r * (by_ : Rat) else r)
      split
      · exact (h2.mul hb).mono (by decide)
      · exact h2.mono (by decide)
    · show _ ∧ Bd2 40 (hd0 (if k = 2 then r * (by_ : Rat) else r) (ledC k by_ ct))
      rw [e0]
      exact ⟨hun _ h3, hbd _ h4⟩
    · show _ ∧ Bd2 40 (hd1 (if k = 2 then r * (by_ : Rat) else r) (ledC k by_ ct))
      rw [e1]
      exact ⟨hun _ h5, hbd _ h6⟩
/-- the limits that go with it -/
def ledL (k by_ : Int) (l : Lim) : Lim := if k = 2 then ⟨l.pl * Rat.divInt 1 by_, l.jt, l.up * (by_ : Rat), l.dn * (by_ : Rat)⟩ else l
theorem div_by {by_ : Int} (h : 2 ≤ by_ ∧ by_ ≤ 4) : Rat.divInt 1 by_ * (by_ : Rat) = 1 := by
  have z := DL.rz (show 0 < by_ by omega)
  rw [Rat.divInt_eq_div, show (((1 : Int)) : Rat) = 1 from rfl]
  generalize (by_ : Rat) = B at *
  grind
theorem led_alike {k by_ : Int} {l : Lim} {t : Et} (h : K3 k by_) (hl : 0 < l.up ∧ 0 < l.dn) (ht : EtOk t) : Alike l (ledL k by_ l) t (ledT k by_ t) := by
  obtain ⟨e, pace, num⟩ := t
  have b0 : (0 : Rat) < (by_ : Rat) := by
    rw [show (0 : Rat) = ((0 : Int) : Rat) from rfl]
    exact Rat.intCast_lt_intCast.mpr (by have := h.2; omega)
  have bz : (by_ : Rat) ≠ 0 := by grind
  have dv := div_by h.2
  by_cases hk : k = 2
  · subst hk
    have el : ledL 2 by_ l = ⟨l.pl * Rat.divInt 1 by_, l.jt, l.up * (by_ : Rat), l.dn * (by_ : Rat)⟩ := if_pos rfl
    rw [el]
    rcases e with ⟨b, f⟩ | ⟨⟨b, f⟩ | ⟨b, f, o, w⟩, r⟩
    · exact ⟨rfl, rfl, rfl, fun _ _ _ => rfl⟩
    · have q : ∀ x : Rat, 0 < x → (r * (by_ : Rat)) / (x * (by_ : Rat)) = r / x := fun x hx => by
        generalize (by_ : Rat) = B at *
        grind
      refine ⟨rfl, ?_, ?_, fun a c t0 => ?_⟩
      · show ((r * (by_ : Rat)) / (l.up * (by_ : Rat))).floor = (r / l.up).floor
        rw [q _ hl.1]
      · show ((r * (by_ : Rat)) / (l.dn * (by_ : Rat))).floor = (r / l.dn).floor
        rw [q _ hl.2]
      · show (decide (a ≤ t0) && decide (c ≤ t0) && fitR (r * (by_ : Rat)) (l.up * (by_ : Rat)) (l.dn * (by_ : Rat)) a t0 c) = (decide (a ≤ t0) && decide (c ≤ t0) && fitR r l.up l.dn a t0 c)
        congr 1
        unfold fitR
        refine decide_eq_decide.mpr ?_
        generalize ((t0 - a : Int) : Rat) = x
        generalize ((t0 - c : Int) : Rat) = y
        generalize (by_ : Rat) = B at *
        constructor
        · intro z
          apply Classical.byContradiction
          intro n
          have := Rat.mul_pos (show 0 < x * l.up + y * l.dn - r by grind) b0
          grind
        · intro z
          have := Rat.mul_nonneg (show 0 ≤ r - (x * l.up + y * l.dn) by grind) (show 0 ≤ B by grind)
          grind
    · refine ⟨?_, rfl, rfl, fun _ _ _ => rfl⟩
      show ((gearN pace.toNat 1 (l.pl * Rat.divInt 1 by_ * (r * (by_ : Rat))) : Nat) : Int) = ((gearN pace.toNat 1 (l.pl * r) : Nat) : Int)
      rw [show l.pl * Rat.divInt 1 by_ * (r * (by_ : Rat)) = l.pl * r * (Rat.divInt 1 by_ * (by_ : Rat)) by grind, dv, Rat.mul_one]
  · have el : ledL k by_ l = l := if_neg hk
    rw [el]
    rcases e with ⟨b, f⟩ | ⟨⟨b, f⟩ | ⟨b, f, o, w⟩, r⟩
    · exact ⟨rfl, rfl, rfl, fun _ _ _ => rfl⟩
    · have er : (if k = 2 then r * (by_ : Rat) else r) = r := if_neg hk
      refine ⟨rfl, ?_, ?_, fun a c t0 => ?_⟩
      · show ((if k = 2 then r * (by_ : Rat) else r) / l.up).floor = _
        rw [er]
        rfl
      · show ((if k = 2 then r * (by_ : Rat) else r) / l.dn).floor = _
        rw [er]
        rfl
      · show (decide (a ≤ t0) && decide (c ≤ t0) && fitR (if k = 2 then r * (by_ : Rat) else r) l.up l.dn a t0 c) = _
        rw [er]
        rfl
    · have er : (if k = 2 then r * (by_ : Rat) else r) = r := if_neg hk
      refine ⟨?_, rfl, rfl, fun _ _ _ => rfl⟩
      show ((gearN pace.toNat 1 (l.pl * (if k = 2 then r * (by_ : Rat) else r)) : Nat) : Int) = _
      rw [er]
      rfl
theorem led_jolt {k by_ : Int} {jt : Rat} {a b : Et} (h : K3 k by_) (ha : EtOk a) (hb : EtOk b) : joltOf jt (ledT k by_ a).e (ledT k by_ b).e = joltOf jt a.e b.e := by
  obtain ⟨ea, pa, na⟩ := a
  obtain ⟨eb, pb, nb⟩ := b
  cases ea with
  | hop b1 f1 => rfl
  | cut c1 r1 =>
    cases eb with
    | hop b2 f2 => rfl
    | cut c2 r2 =>
      have p1 := cut_pos ha.1.1
      have p2 := cut_pos hb.1.1
      show (if hd1 (if k = 2 then r1 * (by_ : Rat) else r1) (ledC k by_ c1) = hd0 (if k = 2 then r2 * (by_ : Rat) else r2) (ledC k by_ c2) then (9 : Int) else ((gearN 9 (2 - 2 * dotR (hd1 (if k = 2 then r1 * (by_ : Rat) else r1) (ledC k by_ c1)) (hd0 (if k = 2 then r2 * (by_ : Rat) else r2) (ledC k by_ c2))) (jt * jt) : Nat) : Int)) = _
      rw [(led_hd (ct := c1) h p1).2, (led_hd (ct := c2) h p2).1, ledH_dot]
      show _ = (if hd1 r1 c1 = hd0 r2 c2 then (9 : Int) else ((gearN 9 (2 - 2 * dotR (hd1 r1 c1) (hd0 r2 c2)) (jt * jt) : Nat) : Int))
      by_cases e : hd1 r1 c1 = hd0 r2 c2
      · rw [if_pos e, if_pos (by rw [e])]
      · rw [if_neg e, if_neg (fun z => e (ledH_inj z))]
theorem ledL_jt {k by_ : Int} {l : Lim} : (ledL k by_ l).jt = l.jt := by
  unfold ledL
  split <;> rfl
theorem led_plan {k by_ : Int} {l : Lim} {ts : List Et} (h : K3 k by_) (hl : 0 < l.up ∧ 0 < l.dn) (ht : ∀ t ∈ ts, EtOk t) : planL (ledL k by_ l) (ts.map (ledT k by_)) = planL l ts :=
  plan_map (fun t m => led_alike h hl (ht t m)) fun a ha b hb => by
    rw [ledL_jt]
    exact led_jolt h (ht a ha) (ht b hb)
theorem led_jcaps {k by_ : Int} {l : Lim} {ts : List Et} (h : K3 k by_) (hl : 0 < l.up ∧ 0 < l.dn) (ht : ∀ t ∈ ts, EtOk t) (i : Nat) : jcaps (ledL k by_ l).pl l.jt (ts.map (ledT k by_)) i = jcaps l.pl l.jt ts i :=
  jcaps_map (fun a ha b hb => by
    unfold jcap
    rw [(led_alike h hl (ht a ha)).cap, (led_alike h hl (ht b hb)).cap, led_jolt h (ht a ha) (ht b hb)]) i
/-! ### gone the other way about -/
def backE : En → En
  | .hop b f => .hop f b
  | .cut ct r => .cut (backC ct) r
def backT (t : Et) : Et := ⟨backE t.e, t.pace, t.num⟩
def backL (l : Lim) : Lim := ⟨l.pl, l.jt, l.dn, l.up⟩
theorem back_w {t : Et} (h : EtW t) : EtW (backT t) := by
  obtain ⟨he, hp, hn⟩ := h
  refine ⟨?_, hp, hn⟩
  obtain ⟨e, pace, num⟩ := t
  cases e with
  | hop b f => exact ⟨he.2, he.1⟩
  | cut ct r =>
    obtain ⟨h1, h2, ⟨h3, h4⟩, h5, h6⟩ := he
    refine ⟨ct_back h1, h2, ?_, ?_⟩
    · rw [hd0_back]
      exact ⟨by simp only; grind, h6.1.neg, h6.2.neg⟩
    · rw [hd1_back]
      exact ⟨by simp only; grind, h4.1.neg, h4.2.neg⟩
theorem back_cap {pl : Rat} {t : Et} : capOf pl (backT t) = capOf pl t := by
  obtain ⟨e, pace, num⟩ := t
  rcases e with ⟨b, f⟩ | ⟨⟨b, f⟩ | ⟨b, f, o, w⟩, r⟩ <;> rfl
theorem back_chg {x : Rat} {e : En} : chg x (backE e) = chg x e := by
  rcases e with ⟨b, f⟩ | ⟨⟨b, f⟩ | ⟨b, f, o, w⟩, r⟩ <;> rfl
theorem back_fit {up dn : Rat} {e : En} {a b t : Int} : fitE dn up (backE e) b a t = fitE up dn e a b t := by
  rcases e with ⟨b1, f⟩ | ⟨⟨b1, f⟩ | ⟨b1, f, o, w⟩, r⟩
  · show (decide (b = t) && decide (t = a)) = (decide (a = t) && decide (t = b))
    by_cases h1 : a = t <;> by_cases h2 : b = t <;> simp [h1, h2, eq_comm]
  · show (decide (b ≤ t) && decide (a ≤ t) && fitR r dn up b t a) = (decide (a ≤ t) && decide (b ≤ t) && fitR r up dn a t b)
    have e : fitR r dn up b t a = fitR r up dn a t b := by
      unfold fitR
      refine decide_eq_decide.mpr ?_
      rw [Rat.add_comm]
    rw [e, Bool.and_comm (decide (b ≤ t))]
  · show (decide (b = t) && decide (t = a)) = (decide (a = t) && decide (t = b))
    by_cases h1 : a = t <;> by_cases h2 : b = t <;> simp [h1, h2, eq_comm]
theorem back_jolt {jt : Rat} {a b : En} : joltOf jt (backE b) (backE a) = joltOf jt a b := by
  cases a with
  | hop b1 f1 => cases b <;> rfl
  | cut c1 r1 =>
    cases b with
    | hop b2 f2 => rfl
    | cut c2 r2 =>
      show (if hd1 r2 (backC c2) = hd0 r1 (backC c1) then (9 : Int) else ((gearN 9 (2 - 2 * dotR (hd1 r2 (backC c2)) (hd0 r1 (backC c1))) (jt * jt) : Nat) : Int)) = (if hd1 r1 c1 = hd0 r2 c2 then (9 : Int) else ((gearN 9 (2 - 2 * dotR (hd1 r1 c1) (hd0 r2 c2)) (jt * jt) : Nat) : Int))
      rw [hd1_back, hd0_back]
      generalize hd1 r1 c1 = u
      generalize hd0 r2 c2 = v
      have ed : dotR (-v.1, -v.2) (-u.1, -u.2) = dotR u v := by
        unfold dotR
        simp only
        grind
      rw [ed]
      by_cases e : u = v
      · rw [if_pos e, if_pos (by rw [e])]
      · rw [if_neg e, if_neg (fun z => e ?_)]
        simp only [Prod.mk.injEq] at z
        exact Prod.ext (by have := z.1; grind) (by have := z.2; grind)
theorem revT_get {ts : List Et} {i : Nat} (h : i < ts.length) : (ts.reverse.map backT)[i]? = some (backT (ts.getD (ts.length - 1 - i) et0)) := by
  rw [List.getElem?_map, List.getElem?_reverse h, List.getElem?_eq_getElem (by omega), List.getD_eq_getElem?_getD, List.getElem?_eq_getElem (by omega)]
  rfl
theorem revT_getD {ts : List Et} {i : Nat} (h : i < ts.length) : (ts.reverse.map backT).getD i et0 = backT (ts.getD (ts.length - 1 - i) et0) := getD_of (revT_get h)
theorem jcaps_at {pl jt : Rat} {ts : List Et} {k : Nat} (h : k + 1 < ts.length) : jcaps pl jt ts (k + 1) = jcap pl jt (ts.getD k et0) (ts.getD (k + 1) et0) := by
  show (match ts[k]?, ts[k + 1]? with | some a, some b => jcap pl jt a b | _, _ => 0) = _
  rw [List.getElem?_eq_getElem (by omega), List.getElem?_eq_getElem h, List.getD_eq_getElem?_getD, List.getD_eq_getElem?_getD, List.getElem?_eq_getElem (by omega), List.getElem?_eq_getElem h]
  rfl
theorem jcaps_end {pl jt : Rat} {ts : List Et} {k : Nat} (h : ts.length ≤ k) : jcaps pl jt ts k = 0 := by
  cases k with
  | zero => rfl
  | succ k =>
    show (match ts[k]?, ts[k + 1]? with | some a, some b => jcap pl jt a b | _, _ => 0) = _
    rw [show ts[k + 1]? = none from List.getElem?_eq_none (by omega)]
    split <;> simp_all
theorem jcaps_rev {pl jt : Rat} {ts : List Et} {i : Nat} (h : i ≤ ts.length) : jcaps pl jt (ts.reverse.map backT) i = jcaps pl jt ts (ts.length - i) := by
  have ln : (ts.reverse.map backT).length = ts.length := by rw [List.length_map, List.length_reverse]
  cases i with
  | zero => rw [Nat.sub_zero, jcaps_end (Nat.le_refl _)]; rfl
  | succ k =>
    rcases Nat.lt_or_ge (k + 1) ts.length with z | z
    · obtain ⟨m, hm⟩ : ∃ m, ts.length - (k + 1) = m + 1 := ⟨ts.length - (k + 1) - 1, by omega⟩
      rw [jcaps_at (by rw [ln]; exact z), hm, jcaps_at (by omega), revT_getD (by omega), revT_getD z]
      rw [show ts.length - 1 - k = m + 1 by omega, show ts.length - 1 - (k + 1) = m by omega]
      unfold jcap
      rw [back_cap, back_cap, show (backT (ts.getD (m + 1) et0)).e = backE (ts.getD (m + 1) et0).e from rfl, show (backT (ts.getD m et0)).e = backE (ts.getD m et0).e from rfl, back_jolt, Int.min_comm (capOf pl (ts.getD (m + 1) et0))]
    · rw [jcaps_end (by rw [ln]; exact z), show ts.length - (k + 1) = 0 by omega]
      rfl
theorem gr_rev {n : Nat} {c r d : Nat → Int} (hr : ∀ k, k < n → 0 ≤ r k) (hd : ∀ k, k < n → 0 ≤ d k) {i : Nat} (hi : i ≤ n) : gr n (fun i => c (n - i)) (fun k => d (n - 1 - k)) (fun k => r (n - 1 - k)) i = gr n c r d (n - i) := by
  have g1 := gr_grt (n := n) (c := fun i => c (n - i)) (r := fun k => d (n - 1 - k)) (d := fun k => r (n - 1 - k)) (fun k hk => hd _ (by omega)) (fun k hk => hr _ (by omega))
  have g2 := gr_grt (n := n) (c := c) hr hd
  have flip : ∀ {c r d S : Nat → Int}, Sol n c r d S → Sol n (fun i => c (n - i)) (fun k => d (n - 1 - k)) (fun k => r (n - 1 - k)) (fun i => S (n - i)) := by
    intro c r d S s
    refine ⟨fun i hi => s.le _ (by omega), fun k hk => ?_, fun k hk => ?_⟩
    · have := s.dn (n - 1 - k) (by omega)
      rw [show n - 1 - k + 1 = n - k by omega, show n - 1 - k = n - (k + 1) by omega] at this
      rw [show n - 1 - k = n - (k + 1) by omega]
      exact this
    · have := s.up (n - 1 - k) (by omega)
      rw [show n - 1 - k + 1 = n - k by omega, show n - 1 - k = n - (k + 1) by omega] at this
      rw [show n - 1 - k = n - (k + 1) by omega]
      exact this
  have a := g1.top _ (flip g2.sol) i hi
  have f2 := flip g1.sol
  have f3 : Sol n c r d (fun i => gr n (fun i => c (n - i)) (fun k => d (n - 1 - k)) (fun k => r (n - 1 - k)) (n - i)) := by
    refine ⟨fun i hi => ?_, fun k hk => ?_, fun k hk => ?_⟩
    · have := f2.le i hi
      rw [show n - (n - i) = i by omega] at this
      exact this
    · have := f2.up k hk
      rw [show n - 1 - (n - 1 - k) = k by omega] at this
      exact this
    · have := f2.dn k hk
      rw [show n - 1 - (n - 1 - k) = k by omega] at this
      exact this
  have b := g2.top _ f3 (n - i) (by omega)
  rw [show n - (n - i) = i by omega] at b
  have a : gr n c r d (n - i) ≤ _ := a
  omega
def sw3 (p : Int × Int × Int) : Int × Int × Int := (p.2.2, p.2.1, p.1)
theorem plan_back {l : Lim} {ts : List Et} (hu : 0 < l.up ∧ 0 < l.dn) (ht : ∀ t ∈ ts, EtW t) : planL (backL l) (ts.reverse.map backT) = (planL l ts).reverse.map sw3 := by
  have ln : (ts.reverse.map backT).length = ts.length := by rw [List.length_map, List.length_reverse]
  have hg : ∀ i, i ≤ ts.length → gears (backL l) (ts.reverse.map backT) (jcaps l.pl l.jt (ts.reverse.map backT)) i = gears l ts (jcaps l.pl l.jt ts) (ts.length - i) := fun i hi => by
    unfold gears
    rw [ln, ← gr_rev (fun k _ => chgs_nn hu.1 ht k) (fun k _ => chgs_nn hu.2 ht k) hi]
    refine gr_congr (fun k hk => jcaps_rev hk) (fun k hk => ?_) (fun k hk => ?_) hi
    · unfold chgs
      rw [revT_getD hk]
      exact back_chg
    · unfold chgs
      rw [revT_getD hk]
      exact back_chg
  apply List.ext_getElem?
  intro i
  rcases Nat.lt_or_ge i ts.length with z | z
  · rw [List.getElem?_map, List.getElem?_reverse (by unfold planL; rw [planG_len]; exact z)]
    have e1 := planG_get (l := backL l) (G := gears (backL l) (ts.reverse.map backT) (jcaps l.pl l.jt (ts.reverse.map backT))) (revT_get z)
    have lp : (planL l ts).length = ts.length := by unfold planL; rw [planG_len]
    rw [lp]
    have et : ts[ts.length - 1 - i]? = some (ts.getD (ts.length - 1 - i) et0) := by
      rw [List.getD_eq_getElem?_getD, List.getElem?_eq_getElem (by omega)]
      rfl
    have e2 := planG_get (l := l) (G := gears l ts (jcaps l.pl l.jt ts)) et
    show (planG (backL l) (ts.reverse.map backT) (gears (backL l) (ts.reverse.map backT) (jcaps l.pl l.jt (ts.reverse.map backT))))[i]? = Option.map sw3 (planG l ts (gears l ts (jcaps l.pl l.jt ts)))[ts.length - 1 - i]?
    rw [e1, e2, hg i (by omega), hg (i + 1) (by omega), show ts.length - 1 - i + 1 = ts.length - i by omega, show ts.length - (i + 1) = ts.length - 1 - i by omega]
    generalize gears l ts (jcaps l.pl l.jt ts) (ts.length - i) = x
    generalize gears l ts (jcaps l.pl l.jt ts) (ts.length - 1 - i) = y
    show some (x, topE l.dn l.up (backE (ts.getD (ts.length - 1 - i) et0).e) (capOf l.pl (backT (ts.getD (ts.length - 1 - i) et0))) x y, y) = some (x, topE l.up l.dn (ts.getD (ts.length - 1 - i) et0).e (capOf l.pl (ts.getD (ts.length - 1 - i) et0)) y x, y)
    unfold topE
    rw [back_cap, Int.max_comm x y, show fitE l.dn l.up (backE (ts.getD (ts.length - 1 - i) et0).e) x y = fitE l.up l.dn (ts.getD (ts.length - 1 - i) et0).e y x from funext fun t => back_fit]
  · rw [List.getElem?_eq_none (by unfold planL; rw [planG_len, ln]; exact z), List.getElem?_eq_none (by rw [List.length_map, List.length_reverse]; unfold planL; rw [planG_len]; exact z)]
/-! ### a hop put in -/
def hopT (p : Rat × Rat) : Et := ⟨.hop p p, 5, 0⟩
theorem getD_app1 {A B : List Et} {i : Nat} (h : i < A.length) : (A ++ B).getD i et0 = A.getD i et0 := by
  rw [List.getD_eq_getElem?_getD, List.getD_eq_getElem?_getD, List.getElem?_append_left h]
theorem getD_app2 {A B : List Et} {i : Nat} : (A ++ B).getD (A.length + i) et0 = B.getD i et0 := by
  rw [List.getD_eq_getElem?_getD, List.getD_eq_getElem?_getD, List.getElem?_append_right (by omega), show A.length + i - A.length = i by omega]
theorem gr_part {a b : Nat} {c r d : Nat → Int} (hr : ∀ k, k < a + 1 + b → 0 ≤ r k) (hd : ∀ k, k < a + 1 + b → 0 ≤ d k) (hc : ∀ k, k ≤ a + 1 + b → 0 ≤ c k) (h0 : c a = 0) (h1 : c (a + 1) = 0) {i : Nat} (hi : i ≤ a + 1 + b) :
    gr (a + 1 + b) c r d i = if i ≤ a then gr a c r d i else gr b (fun k => c (a + 1 + k)) (fun k => r (a + 1 + k)) (fun k => d (a + 1 + k)) (i - (a + 1)) := by
  have g := gr_grt (n := a + 1 + b) (c := c) hr hd
  have gA := gr_grt (n := a) (c := c) (r := r) (d := d) (fun k hk => hr k (by omega)) (fun k hk => hd k (by omega))
  have gB := gr_grt (n := b) (c := fun k => c (a + 1 + k)) (r := fun k => r (a + 1 + k)) (d := fun k => d (a + 1 + k)) (fun k hk => hr _ (by omega)) (fun k hk => hd _ (by omega))
  have nA : ∀ k, k ≤ a → 0 ≤ gr a c r d k := fun k hk => gr_nn (fun j hj => hc j (by omega)) (fun j hj => hr j (by omega)) (fun j hj => hd j (by omega)) hk
  have nB : ∀ k, k ≤ b → 0 ≤ gr b (fun k => c (a + 1 + k)) (fun k => r (a + 1 + k)) (fun k => d (a + 1 + k)) k := fun k hk => gr_nn (fun j hj => hc _ (by omega)) (fun j hj => hr _ (by omega)) (fun j hj => hd _ (by omega)) hk
  have zA : gr a c r d a = 0 := by
    have := gA.sol.le a (Nat.le_refl _)
    have := nA a (Nat.le_refl _)
    omega
  have zB : gr b (fun k => c (a + 1 + k)) (fun k => r (a + 1 + k)) (fun k => d (a + 1 + k)) 0 = 0 := by
    have h2 : gr b (fun k => c (a + 1 + k)) (fun k => r (a + 1 + k)) (fun k => d (a + 1 + k)) 0 ≤ c (a + 1) := gB.sol.le 0 (Nat.zero_le _)
    have := nB 0 (Nat.zero_le _)
    omega
  generalize hGA : gr a c r d = GA at *
  generalize hGB : gr b (fun k => c (a + 1 + k)) (fun k => r (a + 1 + k)) (fun k => d (a + 1 + k)) = GB at *
  have s : Sol (a + 1 + b) c r d (fun i => if i ≤ a then GA i else GB (i - (a + 1))) := by
    refine ⟨fun k hk => ?_, fun k hk => ?_, fun k hk => ?_⟩
    · show (if k ≤ a then GA k else GB (k - (a + 1))) ≤ c k
      split
      · exact gA.sol.le k ‹_›
      · have := gB.sol.le (k - (a + 1)) (by omega)
        rw [show a + 1 + (k - (a + 1)) = k by omega] at this
        exact this
    · show (if k + 1 ≤ a then GA (k + 1) else GB (k + 1 - (a + 1))) ≤ (if k ≤ a then GA k else GB (k - (a + 1))) + r k
      have r0 := hr k hk
      rcases (show k < a ∨ k = a ∨ a < k by omega) with z | z | z
      · rw [if_pos (by omega), if_pos (by omega)]
        exact gA.sol.up k z
      · subst z
        rw [if_neg (by omega), if_pos (Nat.le_refl _), Nat.sub_self, zB, zA]
        omega
      · rw [if_neg (by omega), if_neg (by omega)]
        have := gB.sol.up (k - (a + 1)) (by omega)
        rw [show k - (a + 1) + 1 = k + 1 - (a + 1) by omega, show a + 1 + (k - (a + 1)) = k by omega] at this
        exact this
    · show (if k ≤ a then GA k else GB (k - (a + 1))) ≤ (if k + 1 ≤ a then GA (k + 1) else GB (k + 1 - (a + 1))) + d k
      have d0 := hd k hk
      rcases (show k < a ∨ k = a ∨ a < k by omega) with z | z | z
      · rw [if_pos (by omega), if_pos (by omega)]
        exact gA.sol.dn k z
      · subst z
        rw [if_pos (Nat.le_refl _), if_neg (by omega), Nat.sub_self, zB, zA]
        omega
      · rw [if_neg (by omega), if_neg (by omega)]
        have := gB.sol.dn (k - (a + 1)) (by omega)
        rw [show k - (a + 1) + 1 = k + 1 - (a + 1) by omega, show a + 1 + (k - (a + 1)) = k by omega] at this
        exact this
  refine g.uniq ⟨s, fun S sS k hk => ?_⟩ hi
  show S k ≤ if k ≤ a then GA k else GB (k - (a + 1))
  split
  · exact gA.top S ⟨fun j hj => sS.le j (by omega), fun j hj => sS.up j (by omega), fun j hj => sS.dn j (by omega)⟩ k ‹_›
  · have := gB.top (fun j => S (a + 1 + j)) ⟨fun j hj => sS.le _ (by omega), fun j hj => by
      have := sS.up (a + 1 + j) (by omega)
      rw [show a + 1 + j + 1 = a + 1 + (j + 1) by omega] at this
      exact this, fun j hj => by
      have := sS.dn (a + 1 + j) (by omega)
      rw [show a + 1 + j + 1 = a + 1 + (j + 1) by omega] at this
      exact this⟩ (k - (a + 1)) (by omega)
    rw [show a + 1 + (k - (a + 1)) = k by omega] at this
    exact this
theorem jcaps_app1 {pl jt : Rat} {A B : List Et} {k : Nat} (h : k < A.length) : jcaps pl jt (A ++ B) k = jcaps pl jt A k := by
  cases k with
  | zero => rfl
  | succ k => rw [jcaps_at (by rw [List.length_append]; omega), jcaps_at h, getD_app1 (by omega), getD_app1 h]
theorem hop_jcap {pl jt : Rat} {p : Rat × Rat} {t : Et} (h : EtW t) : jcap pl jt t (hopT p) = 0 ∧ jcap pl jt (hopT p) t = 0 := by
  have c := cap_in (pl := pl) h
  have e : capOf pl (hopT p) = 0 := rfl
  have j1 := jolt_in (jt := jt) (a := t.e) (b := (hopT p).e)
  have j2 := jolt_in (jt := jt) (a := (hopT p).e) (b := t.e)
  unfold jcap
  rw [e]
  omega
theorem plan_hop {l : Lim} {A B : List Et} {p : Rat × Rat} (hl : 0 < l.up ∧ 0 < l.dn) (hA : ∀ t ∈ A, EtW t) (hB : ∀ t ∈ B, EtW t) (hp : EtW (hopT p)) : planL l (A ++ hopT p :: B) = planL l A ++ (0, 0, 0) :: planL l B := by
  have ht : ∀ t ∈ A ++ hopT p :: B, EtW t := fun t m => by
    rcases List.mem_append.mp m with z | z
    · exact hA t z
    · rcases List.mem_cons.mp z with z | z
      · rw [z]; exact hp
      · exact hB t z
  have ln : (A ++ hopT p :: B).length = A.length + 1 + B.length := by rw [List.length_append, List.length_cons]; omega
  have gdA : ∀ i, i < A.length → (A ++ hopT p :: B).getD i et0 = A.getD i et0 := fun i h => getD_app1 h
  have gdH : (A ++ hopT p :: B).getD A.length et0 = hopT p := by
    have := getD_app2 (A := A) (B := hopT p :: B) (i := 0)
    exact this
  have gdB : ∀ i, (A ++ hopT p :: B).getD (A.length + 1 + i) et0 = B.getD i et0 := fun i => by
    rw [show A.length + 1 + i = A.length + (1 + i) by omega, getD_app2, show 1 + i = i + 1 by omega]
    rfl
  have c0 : jcaps l.pl l.jt (A ++ hopT p :: B) A.length = 0 := by
    cases e : A.length with
    | zero => rfl
    | succ k =>
      rw [jcaps_at (by rw [ln]; omega), ← e, gdH]
      exact (hop_jcap (getD_w ht _)).1
  have c1 : jcaps l.pl l.jt (A ++ hopT p :: B) (A.length + 1) = 0 := by
    rcases Nat.eq_zero_or_pos B.length with z | z
    · exact jcaps_end (by rw [ln]; omega)
    · rw [jcaps_at (by rw [ln]; omega), gdH]
      exact (hop_jcap (getD_w ht _)).2
  have cB : ∀ k, jcaps l.pl l.jt (A ++ hopT p :: B) (A.length + 1 + k) = jcaps l.pl l.jt B k := fun k => by
    cases k with
    | zero => exact c1
    | succ k =>
      rcases Nat.lt_or_ge (k + 1) B.length with z | z
      · rw [show A.length + 1 + (k + 1) = (A.length + 1 + k) + 1 by omega, jcaps_at (by rw [ln]; omega), jcaps_at z, gdB, show A.length + 1 + k + 1 = A.length + 1 + (k + 1) by omega, gdB]
      · rw [jcaps_end (by rw [ln]; omega), jcaps_end z]
  have hg : ∀ i, i ≤ A.length + 1 + B.length → gears l (A ++ hopT p :: B) (jcaps l.pl l.jt (A ++ hopT p :: B)) i = if i ≤ A.length then gears l A (jcaps l.pl l.jt A) i else gears l B (jcaps l.pl l.jt B) (i - (A.length + 1)) := fun i hi => by
    show gr (A ++ hopT p :: B).length _ _ _ i = _
    rw [ln, gr_part (fun k _ => chgs_nn hl.1 ht k) (fun k _ => chgs_nn hl.2 ht k) (fun k _ => (jcaps_in ht k).1) c0 c1 hi]
    split
    · refine gr_congr (fun k hk => ?_) (fun k hk => ?_) (fun k hk => ?_) ‹_›
      · rcases Nat.lt_or_ge k A.length with z | z
        · exact jcaps_app1 z
        · rw [show k = A.length by omega, c0, jcaps_end (Nat.le_refl _)]
      · unfold chgs
        rw [gdA k hk]
      · unfold chgs
        rw [gdA k hk]
    · refine gr_congr (fun k hk => cB k) (fun k hk => ?_) (fun k hk => ?_) (by omega)
      · unfold chgs
        rw [gdB]
      · unfold chgs
        rw [gdB]
  have lA : (planL l A).length = A.length := by unfold planL; rw [planG_len]
  have lB : (planL l B).length = B.length := by unfold planL; rw [planG_len]
  have at_ : ∀ {ts : List Et} {i : Nat}, i < ts.length → ts[i]? = some (ts.getD i et0) := fun {ts i} h => by
    rw [List.getD_eq_getElem?_getD, List.getElem?_eq_getElem h]
    rfl
  have zA : gears l A (jcaps l.pl l.jt A) A.length = 0 := by
    have g := gr_grt (n := A.length) (c := jcaps l.pl l.jt A) (r := chgs l.up A) (d := chgs l.dn A) (fun k _ => chgs_nn hl.1 hA k) (fun k _ => chgs_nn hl.2 hA k)
    have g1 := gr_nn (n := A.length) (c := jcaps l.pl l.jt A) (r := chgs l.up A) (d := chgs l.dn A) (fun k _ => (jcaps_in hA k).1) (fun k _ => chgs_nn hl.1 hA k) (fun k _ => chgs_nn hl.2 hA k) (Nat.le_refl _)
    have g2 := g.sol.le A.length (Nat.le_refl _)
    rw [jcaps_end (Nat.le_refl _)] at g2
    unfold gears
    omega
  have zB : gears l B (jcaps l.pl l.jt B) 0 = 0 := by
    have g := gr_grt (n := B.length) (c := jcaps l.pl l.jt B) (r := chgs l.up B) (d := chgs l.dn B) (fun k _ => chgs_nn hl.1 hB k) (fun k _ => chgs_nn hl.2 hB k)
    have g1 := gr_nn (n := B.length) (c := jcaps l.pl l.jt B) (r := chgs l.up B) (d := chgs l.dn B) (fun k _ => (jcaps_in hB k).1) (fun k _ => chgs_nn hl.1 hB k) (fun k _ => chgs_nn hl.2 hB k) (Nat.zero_le _)
    have g2 := g.sol.le 0 (Nat.zero_le _)
    have g3 : jcaps l.pl l.jt B 0 = 0 := rfl
    unfold gears
    omega
  apply List.ext_getElem?
  intro i
  rcases Nat.lt_or_ge i (A.length + 1 + B.length) with z | z
  · have e1 := planG_get (l := l) (G := gears l (A ++ hopT p :: B) (jcaps l.pl l.jt (A ++ hopT p :: B))) (at_ (ts := A ++ hopT p :: B) (i := i) (by rw [ln]; exact z))
    show (planG l (A ++ hopT p :: B) (gears l (A ++ hopT p :: B) (jcaps l.pl l.jt (A ++ hopT p :: B))))[i]? = _
    rw [e1, hg i (by omega), hg (i + 1) (by omega)]
    rcases (show i < A.length ∨ i = A.length ∨ A.length < i by omega) with w | w | w
    · rw [List.getElem?_append_left (by rw [lA]; exact w)]
      show _ = (planG l A (gears l A (jcaps l.pl l.jt A)))[i]?
      rw [planG_get (at_ w), if_pos (by omega), if_pos (by omega), gdA i w]
    · subst w
      rw [List.getElem?_append_right (by rw [lA]; exact Nat.le_refl _), lA, Nat.sub_self, if_pos (Nat.le_refl _), if_neg (by omega), Nat.sub_self, zA, zB, gdH]
      show some ((0 : Int), topE l.up l.dn (.hop p p) 0 0 0, (0 : Int)) = some (0, 0, 0)
      rw [top_same (by simp) rfl]
    · obtain ⟨j, rfl⟩ : ∃ j, i = A.length + 1 + j := ⟨i - (A.length + 1), by omega⟩
      rw [List.getElem?_append_right (by rw [lA]; omega), lA, show A.length + 1 + j - A.length = j + 1 by omega, List.getElem?_cons_succ]
      show _ = (planG l B (gears l B (jcaps l.pl l.jt B)))[j]?
      rw [planG_get (at_ (by omega)), if_neg (by omega), if_neg (by omega), gdB, show A.length + 1 + j - (A.length + 1) = j by omega, show A.length + 1 + j + 1 - (A.length + 1) = j + 1 by omega]
  · rw [List.getElem?_eq_none (by unfold planL; rw [planG_len, ln]; exact z), List.getElem?_eq_none (by rw [List.length_append, List.length_cons, lA, lB]; omega)]
/-! ### promises -/
def LimS (l : Lim) : Prop := (0 < l.pl ∧ Bd 40 l.pl) ∧ (0 < l.jt ∧ Bd 40 l.jt) ∧ (0 < l.up ∧ Bd 40 l.up) ∧ (0 < l.dn ∧ Bd 40 l.dn)
theorem LimS.ok {l : Lim} (h : LimS l) : LimOk l := ⟨⟨h.1.1, h.1.2.mono (by decide)⟩, ⟨h.2.1.1, h.2.1.2.mono (by decide)⟩, ⟨h.2.2.1.1, h.2.2.1.2.mono (by decide)⟩, h.2.2.2.1, h.2.2.2.2.mono (by decide)⟩
theorem lim0_s : LimS ⟨((2 : Int) : Rat), ((1 : Int) : Rat), ((1 : Int) : Rat), Rat.divInt 1 2⟩ :=
  ⟨⟨by decide, Bd.int (by decide) (by decide)⟩, ⟨by decide, Bd.int (by decide) (by decide)⟩, ⟨by decide, Bd.int (by decide) (by decide)⟩, dI_pos (by decide) (by decide), bd_divInt (by decide) (by decide) (by decide)⟩
theorem ledL_ok {k by_ : Int} {l : Lim} (h : K3 k by_) (hl : LimS l) : LimOk (ledL k by_ l) := by
  unfold ledL
  split
  · have b := by_bd h.2
    have b0 : (0 : Rat) < (by_ : Rat) := by
      rw [show (0 : Rat) = ((0 : Int) : Rat) from rfl]
      exact Rat.intCast_lt_intCast.mpr (by have := h.2; omega)
    have q : Bd 5 (Rat.divInt 1 by_) := bd_divInt (n := 5) (by decide) (show _ < 32 by have := h.2; omega) (by have := h.2; omega)
    exact ⟨⟨Rat.mul_pos hl.1.1 (dI_pos (by decide) (by have := h.2; omega)), (hl.1.2.mul q).mono (by decide)⟩, ⟨hl.2.1.1, hl.2.1.2.mono (by decide)⟩, ⟨Rat.mul_pos hl.2.2.1.1 b0, (hl.2.2.1.2.mul b).mono (by decide)⟩, Rat.mul_pos hl.2.2.2.1 b0, (hl.2.2.2.2.mul b).mono (by decide)⟩
  · exact hl.ok
def f_fourb : FB := fun xs ds Q => ∃ n, BagOk n xs ∧ n + 20 ≤ mostDraws ∧ ds = [] ∧ ∀ (l : Lim) xs', LimS l → BagOk (n + 20) xs' → Q (.d (limD l)) xs'
theorem bm_fourb : BMono f_fourb := ⟨fun xs ds Q Q' hq ⟨n, h1, h2, h3, h⟩ => ⟨n, h1, h2, h3, fun l xs' a b => hq _ _ (h l xs' a b)⟩⟩
instance : BMono f_fourb := bm_fourb
theorem bl_fourb : ∀ xs ds Q, f_fourb xs ds Q → ds.length + 1 = 1 := fun xs ds Q ⟨n, h1, h2, h3, _⟩ => by rw [h3]; rfl
def f_ledp : FP := fun ds Q => ∃ (p : Rat × Rat) (k b : Int), ds = [plD p, .int k, .int b] ∧ (K3 k b ∧ Bd2 100 p) ∧ Q (.d (plD (ledP k b p)))
theorem fm_ledp : FMono f_ledp := ⟨fun ds Q Q' hq ⟨p, k, b, h1, h2, h⟩ => ⟨p, k, b, h1, h2, hq _ h⟩⟩
instance : FMono f_ledp := fm_ledp
theorem ln_ledp : ∀ ds Q, f_ledp ds Q → ds.length = 3 := fun ds Q ⟨p, k, b, e, _⟩ => by rw [e]; rfl
def f_ledw : FP := fun ds Q => ∃ (ts : List Et) (k b : Int), ds = [.list (ts.map etD), .int k, .int b] ∧ (K3 k b ∧ (∀ t ∈ ts, EtOk t) ∧ ts.length ≤ 400) ∧ Q (.o (ts.map fun t => etD (ledT k b t)))
theorem fm_ledw : FMono f_ledw := ⟨fun ds Q Q' hq ⟨p, k, b, h1, h2, h⟩ => ⟨p, k, b, h1, h2, hq _ h⟩⟩
instance : FMono f_ledw := fm_ledw
theorem ln_ledw : ∀ ds Q, f_ledw ds Q → ds.length = 3 := fun ds Q ⟨p, k, b, e, _⟩ => by rw [e]; rfl
def f_goneb : FP := fun ds Q => ∃ (ts : List Et), ds = [.list (ts.map etD)] ∧ ts.length ≤ 400 ∧ Q (.o ((ts.reverse.map backT).map etD))
theorem fm_goneb : FMono f_goneb := ⟨fun ds Q Q' hq ⟨p, h1, h2, h⟩ => ⟨p, h1, h2, hq _ h⟩⟩
instance : FMono f_goneb := fm_goneb
theorem ln_goneb : ∀ ds Q, f_goneb ds Q → ds.length = 1 := fun ds Q ⟨p, e, _⟩ => by rw [e]; rfl
def f_planof : FP := fun ds Q => ∃ (ts : List Et) (l : Lim), ds = [.list (ts.map etD), limD l] ∧ ((∀ t ∈ ts, EtW t) ∧ ts.length ≤ 400 ∧ LimOk l) ∧ Q (.o ((planL l ts).map g3D))
theorem fm_planof : FMono f_planof := ⟨fun ds Q Q' hq ⟨ts, l, h1, h2, h⟩ => ⟨ts, l, h1, h2, hq _ h⟩⟩
instance : FMono f_planof := fm_planof
theorem ln_planof : ∀ ds Q, f_planof ds Q → ds.length = 2 := fun ds Q ⟨ts, l, h, _⟩ => by rw [h]; rfl
def f_alike : FP := fun ds Q => ∃ (ts : List Et) (l : Lim) (b : Int), ds = [.list (ts.map etD), limD l, .int b] ∧ ((∀ t ∈ ts, EtOk t) ∧ ts.length ≤ 300 ∧ LimS l ∧ (2 ≤ b ∧ b ≤ 4)) ∧ Q (.d (.bool true))
theorem fm_alike : FMono f_alike := ⟨fun ds Q Q' hq ⟨ts, l, b, h1, h2, h⟩ => ⟨ts, l, b, h1, h2, hq _ h⟩⟩
instance : FMono f_alike := fm_alike
theorem ln_alike : ∀ ds Q, f_alike ds Q → ds.length = 3 := fun ds Q ⟨ts, l, b, h, _⟩ => by rw [h]; rfl
theorem plan_gd {l : Lim} {ts : List Et} (hl : LimOk l) (ht : ∀ t ∈ ts, EtW t) (hn : ts.length ≤ 400) : Gd 2 (PyData.list ((planL l ts).map g3D)) := .lst fun x hx => by
  obtain ⟨p, m, rfl⟩ := List.mem_map.mp hx
  obtain ⟨z1, z2, z3⟩ := (planL_ok hl ht hn).2 p m
  exact Gd.lst3 (n := 0) (.int (Nat.lt_of_lt_of_le (show _ < 2 ^ 10 by omega) (Nat.pow_le_pow_right (by decide) (by decide)))) (.int (Nat.lt_of_lt_of_le (show _ < 2 ^ 10 by omega) (Nat.pow_le_pow_right (by decide) (by decide)))) (.int (Nat.lt_of_lt_of_le (show _ < 2 ^ 10 by omega) (Nat.pow_le_pow_right (by decide) (by decide))))
end DL

/-! DXa: exceptions by data: raise, calls that may raise, try .. except C as e, what a def lets out. -/
namespace DL
open PySem PySem.Spec L2 PyProof.Rows
/-- what X wants of an exception -/
def canon (X : Cx) : WX := fun cls d σ H => ∀ u s', XE X (fun cls' d' σ' H' => cls' = cls ∧ d' = d ∧ σ' = σ ∧ H' = H) u s' → X.xe u s'
theorem takes_canon (X : Cx) : Takes X (canon X) := fun u s' ⟨a, B, sI, pins, σ, H, cls, d, h1, h2, h3, h4, h5, h6, h7, h8, w⟩ => w u s' ⟨a, B, sI, pins, σ, H, cls, d, h1, h2, h3, h4, h5, h6, h7, h8, rfl, rfl, rfl, rfl⟩
theorem canon_of {X : Cx} {W : WX} (tk : Takes X W) {cls : Value} {d : Option Addr} {σ : L2.St} {H : Hp} (w : W cls d σ H) : canon X cls d σ H := fun u s' ⟨a, B, sI, pins, σ', H', cls', d', h1, h2, h3, h4, h5, h6, h7, h8, e1, e2, e3, e4⟩ => by
  subst e1 e2 e3 e4
  exact tk u s' ⟨a, B, sI, pins, _, _, _, _, h1, h2, h3, h4, h5, h6, h7, h8, w⟩
/-- an exception without fields, of the class of that name -/
def XAt (K : Fg) (cls : Value) (d : Option Addr) (x : Xd) : Prop := cls = .ref (He.ga K x.C) ∧ x.fs = [] ∧ d = none
/-- the wish ex is X's -/
def XOk (X : Cx) (Z : Ent) (ex : Xd → DSt → Prop) : Prop := ∀ (Hs H : Hp) (σ : L2.St) (δ : DSt) (cls : Value) (d : Option Addr) (x : Xd), Rl X.K Z Hs H σ δ → XAt X.K cls d x → ex x δ → canon X cls d σ H
theorem XOk.none {X : Cx} {Z : Ent} : XOk X Z fun _ _ => False := fun _ _ _ _ _ _ _ _ _ z => z.elim
/-! ### promises -/
abbrev FX := List PyData → (Res → Prop) → (Xd → Prop) → Prop
def spX (K : Fg) (f : FX) : Sp := fun vs H Q E => ∃ Hs ds, Same Hs H ∧ DpAll K Hs vs ds ∧ f ds (fun r => ∀ v Hs' H', Rl K (.at H Hs [] []) Hs' H' [] [] → ResOk K (.at H Hs [] []) Hs' H' [] [] v r → Q v H')
  (fun x => ∀ Hs' H' cls d, Rl K (.at H Hs [] []) Hs' H' [] [] → XAt K cls d x → E cls d H')
class XMono (f : FX) : Prop where
  m : ∀ (ds : List PyData) (Q Q' : Res → Prop) (W W' : Xd → Prop), (∀ r, Q r → Q' r) → (∀ x, W x → W' x) → f ds Q W → f ds Q' W'
section
variable {X : Cx} {Z : Ent} {pos : Pos} {ex : Xd → DSt → Prop}
/-! ### raise C() -/
theorem pmk_own0 {C : Addr} {bmB : List Value} {B newId initId : String} {x : Str} {p : Pos} (F : ExcBaseFacts B newId initId bmB) (q : PySem.W.excIn X.K C bmB newId = true) (gC : X.mg x = some (.ref C)) (kC : PySem.W.keepIn X.K (.ref C) = true) (r : Raises X (.ref C)) (hg : Gl X x)
    (hdb : (x == ("__debug__" : Str)) = false := by decide) : PMk X (.Call (.Name x p) [] [] pos) (fun _ H Q => Q (.ref C) none H) := by
  intro pins s σ H Q I h
  refine wpAny_Call_Name_kw (ld_glob I hg gC ?_ hdb)
  refine PySem.W.callWith_K0 I.kIn kC ?_
  obtain ⟨bm, N, nm, qn, bs, hdct, sn, sub, ab, col, dd, k0, k1, k2, k3, k5, mN, hC, hN, hni, T⟩ := exc_obj I.kIn q
  refine wpAny_call_exc_subT F T hC hN hni (fun h' e hm => ?_) (by show 0 ≤ sizeLine; omega)
  exact mk_of I hm r h (I.hok.gone hm.new)
/-- the facts of a class that is raised -/
structure ExD (K : Fg) (x : Str) : Prop where
  ex : ∃ B newId initId bmB, ExcBaseFacts B newId initId bmB ∧ PySem.W.excIn K (He.ga K x) bmB newId = true
  keep : PySem.W.keepIn K (.ref (He.ga K x)) = true
  sub : PySem.W.subIn K (.ref (He.ga K x)) (.type "BaseException") = some true
  typ : PySem.W.typeIn K (.ref (He.ga K x)) = some (.type "type")
def dRaise (ex : Xd → DSt → Prop) (x : Xd) : DS := fun _ δ => ex x δ
theorem ds_raise {x : Str} {p p2 : Pos} (xo : XOk X Z ex) (hc : X.calm = true) (e : ExD X.K x) (gC : X.mg x = some (.ref (He.ga X.K x))) (hg : Gl X x) (hdb : (x == ("__debug__" : Str)) = false := by decide) :
    Ds X Z (.Raise (some (.Call (.Name x p) [] [] p2)) none pos) (dRaise ex ⟨x, []⟩) := by
  obtain ⟨B, newId, initId, bmB, F, q⟩ := e.ex
  exact ⟨ps_imp (ps_raise hc (takes_canon X) (pmk_own0 F q gC e.keep (raises_own e.sub e.typ) hg hdb)) fun D σ H ⟨Hs, δ, N, R, ok, z⟩ => xo Hs H σ δ _ _ _ R ⟨rfl, rfl, rfl⟩ z⟩
/-! ### calls that may raise -/
section
variable {k : Nat} {g : Addr} {fd : FuncData} {ps : List Str} {f : FX} {x : Str} {e : Expr} {es : List Expr} {t : DL'} {p : Pos} {dvs : List V} {dus : List Value} {dd : List PyData}
theorem call_runX {σ : L2.St} {H : Hp} {Q : VK} (xo : XOk X Z ex) (fm : XMono f) (hdd : ∀ H, DpAll X.K H dvs dd) {Hs : Hp} {δ : DSt} (R : Rl X.K Z Hs H σ δ) {vs : List V} {ds : List PyData} (dps : DpAll X.K Hs vs ds)
    (q : f (ds ++ dd) (fun r => ∀ v Hs' H', Same Hs Hs' → Rl X.K Z Hs' H' σ δ → ResOk X.K Z Hs' H' σ δ v r → Q v H') (fun x => ex x δ)) : spX X.K f (vs ++ dvs) H Q (WE (canon X) σ) := by
  refine ⟨Hs, ds ++ dd, R.sub, dps.app (hdd Hs), fm.m _ _ _ _ _ (fun r q v Hs' H' C c => ?_) (fun x q Hs' H' cls d C c => xo Hs' H' σ δ cls d x (R.after C) c q) q⟩
  refine q v Hs' H' C.ext (R.after C) ?_
  cases r with
  | d d => exact c
  | o xs => exact FrO.after R C c
theorem run_fnX {CX : CXT} {E : L2.St → XK} {sp : Sp} {pins : List (Addr × Obj)} {σ : L2.St} {H : Hp} {s : Shared} {Q : VK} {us : List Value} {vs : List V} (F : FnOk X.prog X.w X.K X.mg X.base CX k g fd ps sp) (hr : Room k X.A) (hb : Binds X.K fd ps dus) (hd : Vals dvs dus) (hx : PassesAt CX X σ (E σ))
    (I : Inv X pins σ H s) (r : Vals vs us) (h : sp (vs ++ dvs) H Q (E σ)) : wpAny (model X.prog X.w) X.A (call (.ref g) us) (EP X pins σ Q) X.xe s := by
  have r2 : Vals (vs ++ dvs) (us ++ dus) := r.append hd
  have hl : (us ++ dus).length = ps.length := by rw [← r2.length]; exact F.len _ _ _ _ h
  refine wpAny_call (codeAny_mono (F.run X.A X.stack s H ⟨us, []⟩ (us ++ dus) (vs ++ dvs) Q (E σ) hr I.env0 (hb s us I.kIn hl) r2 h) fun r s' hq => ?_)
  cases r with
  | error e => exact hx pins H s e s' I hq
  | ok fl =>
    cases fl with
    | ret u => exact I.after hq
    | next => exact False.elim hq
    | brk => exact False.elim hq
    | cont => exact False.elim hq
theorem pe_callX {CX : CXT} {E : L2.St → XK} {sp : Sp} {ta : TA} (F : FnOk X.prog X.w X.K X.mg X.base CX k g fd ps sp) (hr : Room k X.A) (hg : Gl X x) (hm : X.mg x = some (.ref g)) (hk : PySem.W.keepIn X.K (.ref g) = true) (hb : Binds X.K fd ps dus) (hd : Vals dvs dus) (hx : ∀ σ, PassesAt CX X σ (E σ))
    (ha : PA X (e :: es) ta) (hdb : (x == ("__debug__" : Str)) = false := by decide) (he : starEach (e :: es) X.env = (false, eval e X.env) :: starEach es X.env := by rfl) (hpl : (backTo pos (starEach es X.env)).any (·.1) = false := by rfl) :
    PE X (.Call (.Name x p) (e :: es) [] pos) (fun σ H Q => ta σ H fun vs H1 => sp (vs ++ dvs) H1 Q (E σ)) := by
  refine ⟨fun pins s σ H Q I h => ?_⟩
  refine wpAny_Call_Name_kw (ld_glob I hg hm ?_ hdb)
  refine PySem.W.callWith_K (h₀ := X.base) I.ok.mod.kin hk (thn (ha.run pos pins s σ H _ I h) fun us s1 ⟨vs, H1, I1, r, q⟩ => ⟨I1.kIn, ?_⟩) he hpl
  exact run_fnX F hr hb hd (hx σ) I1 r q
def dCallX (ex : Xd → DSt → Prop) (f : FX) (dd : List PyData) (t : DL') : DE := fun δ Q => t δ fun ds δ' => f (ds ++ dd) (fun r => Q (asD r) δ') (fun x => ex x δ')
theorem de_callX (F : FnOk X.prog X.w X.K X.mg X.base (L2.CX X.prog X.w) k g fd ps (spX X.K f)) (fm : XMono f) (xo : XOk X Z ex) (hr : Room k X.A) (hg : Gl X x) (hm : X.mg x = some (.ref g)) (hk : PySem.W.keepIn X.K (.ref g) = true) (hb : Binds X.K fd ps dus) (hd : Vals dvs dus) (hdd : ∀ H, DpAll X.K H dvs dd)
    (ha : Da X Z (e :: es) t) (hdb : (x == ("__debug__" : Str)) = false := by decide) (he : starEach (e :: es) X.env = (false, eval e X.env) :: starEach es X.env := by rfl) (hpl : (backTo pos (starEach es X.env)).any (·.1) = false := by rfl) :
    De X Z (.Call (.Name x p) (e :: es) [] pos) (dCallX ex f dd t) := by
  refine ⟨pe_imp (pe_callX F hr hg hm hk hb hd (fun σ => passAt (takes_canon X) σ) ha.run hdb he hpl) fun σ H Q ⟨Hs, δ, R, q⟩ => ⟨Hs, δ, R, ha.mono _ _ _ (fun ds δ1 q vs Hs1 H1 s1 R1 dps => ?_) q⟩, fun δ Q Q' hq q => ha.mono _ _ _ (fun ds δ' z => fm.m _ _ _ _ _ (fun r z => hq _ _ z) (fun _ z => z) z) q⟩
  refine call_runX xo fm hdd R1 dps (fm.m _ _ _ _ _ (fun r q v Hs2 H2 s2 R2 c => ?_) (fun _ z => z) q)
  cases r with
  | d d => exact q v Hs2 H2 (s1.trans s2) R2 c
  | o xs =>
    obtain ⟨Hs3, s3, R3, dp⟩ := FrO.share R2 c
    exact q v Hs3 H2 ((s1.trans s2).trans s3) R3 dp
instance {l : DL'} [XMono f] [LMono l] : EMono (dCallX ex f dd l) := ⟨fun δ Q Q' hq q => LMono.m (t := l) _ _ _ (fun ds δ' z => XMono.m (f := f) _ _ _ _ _ (fun r z => hq _ _ z) (fun _ z => z) z) q⟩
end
instance {x : Xd} : SMono (dRaise ex x) := ⟨fun N N' δ le q => q⟩
end
/-! ### a def that may raise keeps its promise -/
section
variable {P : Program} {w : World} {K : Fg} {mg : Str → Option Value} {base : Heap} {x qual : Str} {params : Arguments} {body : List Stmt} {scope : Scope} {dvs : List V} {kws : List (Str × V)} {f : Addr} {fd : FuncData} {N ps : List Str} {k : Nat}
theorem ok_pureX {fn : FX} (F : FunD K x qual params body scope dvs kws f fd) (S : FnScope N ps scope) (fm : XMono fn) (len : ∀ ds Q W, fn ds Q W → ds.length = ps.length)
    (hb : ∀ (cdv : Value) (A : Around) (outer : List Env) (s : Shared) (H : Hp) (E : XK) (Z : Ent) (ex : Xd → DSt → Prop), Room k (A.deeper (PyProof.Rows.envOfC qual scope s.heap.objs.size f cdv)) → XOk (cxOf (L2.CX P w) P w K mg base N qual scope f cdv A outer s H E) Z ex →
      PassesOwn (model P w) (A.deeper (PyProof.Rows.envOfC qual scope s.heap.objs.size f cdv)) (PyProof.Rows.envOfC qual scope s.heap.objs.size f cdv) (cxOf (L2.CX P w) P w K mg base N qual scope f cdv A outer s H E).xe →
      ∃ t, Dss (cxOf (L2.CX P w) P w K mg base N qual scope f cdv A outer s H E) Z body t ∧ ∀ ds Q W, fn ds Q W → (∀ x δ, W x → ex x δ) → t (endsP Q) (startD N ds)) : FnOk P w K mg base (L2.CX P w) (k + 1) f fd ps (spX K fn) := by
  refine F.ok S (fun vs H Q E h => ?_) (fun cdv A outer s H vs Q E hr h => ?_)
  · obtain ⟨Hs, ds, _, d, q⟩ := h
    rw [d.len]
    exact len _ _ _ q
  · obtain ⟨Hs, ds, sub, d, q⟩ := h
    have tk : Takes (cxOf (L2.CX P w) P w K mg base N qual scope f cdv A outer s H E) (fun cls d _ H => E cls d H) := takes_of rfl rfl rfl rfl
    obtain ⟨t, ht, hq⟩ := hb cdv A outer s H E (.at H Hs [] []) (fun x _ => ∀ Hs' H' cls d, Rl K (.at H Hs [] []) Hs' H' [] [] → XAt K cls d x → E cls d H') hr
      (fun Hs' H' σ δ cls d x R c z => canon_of tk (z Hs' H' cls d R.nil c)) (passes_of rfl)
    refine ⟨_, ht.run, Hs, startD N ds, endsP _, rl_startP sub d, ⟨fun σ δ Hs' H' _ R z => ?_, fun σ δ Hs' H' v e _ R dp z => ?_, fun σ δ Hs' H' v xs _ R fr z => ?_, fun _ _ _ _ _ _ z => z.elim, fun _ _ _ _ _ _ z => z.elim⟩, hq ds _ _ q fun x δ z => z⟩
    · exact z .non Hs' H' R.nil .non
    · exact z v Hs' H' R.nil dp
    · exact z v Hs' H' R.nil fr.nil
end
end DL

namespace DL
open PySem PySem.Spec L2 PyProof.Rows
/-! ### try: body, except C as e: suite -/
def noxn : Option Sl → Option Sl
  | some (.xn _) => none
  | s => s
def unxn (δ : DSt) : DSt := δ.map noxn
theorem unxn_some {δ : DSt} {i : Nat} {s : Sl} (h : (unxn δ)[i]? = some (some s)) : δ[i]? = some (some s) ∧ ∀ C, s ≠ .xn C := by
  unfold unxn at h
  rw [List.getElem?_map] at h
  cases w : δ[i]? with
  | none => rw [w] at h; cases h
  | some o =>
    rw [w] at h
    cases o with
    | none => cases h
    | some t => cases t <;> first | (cases h; done) | (cases h; exact ⟨rfl, fun C e => nomatch e⟩)
theorem unxn_own {δ : DSt} {i : Nat} {s : Sl} (h : δ[i]? = some (some s)) (o : ∀ C, s ≠ .xn C) : (unxn δ)[i]? = some (some s) := by
  unfold unxn
  rw [List.getElem?_map, h]
  cases s with
  | xn C => exact absurd rfl (o C)
  | _ => rfl
theorem unxn_len {δ : DSt} : (unxn δ).length = δ.length := List.length_map _
section
variable {K : Fg} {Z : Ent} {Hs H : Hp} {σ : L2.St} {δ : DSt}
abbrev Ent.su (Z : Ent) (xa : Option (Addr × Str)) : Ent := ⟨Z.H0, Z.Hs0, Z.own, Z.G, Z.σ0, xa, Z.ex⟩
theorem Rl.unxn {xa : Option (Addr × Str)} (R : Rl K Z Hs H σ δ) : Rl K (Z.su xa) Hs H σ (unxn δ) := by
  refine ⟨by rw [unxn_len, R.len], R.sub, R.ext, R.fr, R.new, R.hid, fun i d e => R.shr i d (unxn_some e).1, ?_, R.grd, fun i s e => R.prm i s (unxn_some e).1, fun i C e => absurd rfl ((unxn_some e).2 C)⟩
  obtain ⟨f, F⟩ := R.fps
  refine ⟨f, ⟨fun i s e => F.at_ i s (unxn_some e).1, fun i h => F.emp i fun s e => ?_, F.hs, F.old, fun i s a e => F.mine i s a (unxn_some e).1, F.dis, F.g⟩⟩
  cases s with
  | xn C => rfl
  | sh d => rfl
  | ow p xs => exact h _ (unxn_own e fun C z => nomatch z)
  | ob p o => exact h _ (unxn_own e fun C z => nomatch z)
theorem FrA.unxn {xa : Option (Addr × Str)} {v : V} {s : Sl} {A : List Addr} (R : Rl K Z Hs H σ δ) (c : FrA K Z Hs H σ δ v s A) : FrA K (Z.su xa) Hs H σ (DL.unxn δ) v s A := by
  refine ⟨c.at_, c.hs, c.mine, fun f' F' j a m m' => ?_, c.g⟩
  obtain ⟨f, F⟩ := R.fps
  have e : f' j = f j := by
    cases ho : f j with
    | nil =>
      refine F'.emp j fun s e => ?_
      cases h : s.own with
      | false => rfl
      | true =>
        obtain ⟨v, k1, k2⟩ := F.at_ j s (unxn_some e).1 h
        obtain ⟨b, _, mb⟩ := k2.head
        rw [ho] at mb
        exact nomatch mb
    | cons b l =>
      have nx : ∀ s, δ[j]? = some (some s) → ∀ C, s ≠ .xn C := fun s e C z => by
        have := F.emp j (fun t et => by rw [e] at et; cases et; rw [z]; rfl)
        rw [ho] at this
        cases this
      rw [← ho]
      refine F.eqj F' j ?_ (fun _ z => z) fun _ _ => rfl
      cases w : δ[j]? with
      | none =>
        unfold DL.unxn
        rw [List.getElem?_map, w]
        rfl
      | some o =>
        cases o with
        | none =>
          unfold DL.unxn
          rw [List.getElem?_map, w]
          rfl
        | some s => exact unxn_own w (nx s w)
  rw [e] at m'
  exact c.dis f F j a m m'
/-- the suite begins -/
theorem Rl.suite {a : Addr} {C : Str} {i : Nat} (R : Rl K Z Hs H σ δ) : Rl K (Z.su (some (a, C))) Hs H (σ.set i (some (.ref a))) ((DL.unxn δ).set i (some (.xn C))) := by
  by_cases hi : i < σ.length
  · exact (R.unxn (xa := some (a, C))).put (A := []) (fun d e => nomatch e) (fun z => nomatch z) (fun a m => nomatch m) (fun a m => nomatch m) (fun _ a m => nomatch m) (fun _ _ _ a _ m => nomatch m) (fun a o m => nomatch m) (fun z => nomatch z)
      (fun C' e => by cases e; exact ⟨⟨a, rfl, rfl⟩, rfl⟩) hi
  · exact (R.unxn (xa := some (a, C))).set_out hi
/-- the shared part as the entry's -/
abbrev Ent.hs (Z : Ent) (Hs : Hp) : Ent := ⟨Z.H0, Hs, Z.own, Z.G, Z.σ0, Z.xa, Z.ex⟩
theorem Rl.toHs (R : Rl K Z Hs H σ δ) : Rl K (Z.hs Hs) Hs H σ δ :=
  ⟨R.len, R.sub, Same.refl _, R.fr, fun b n => .inl n, R.hid, R.shr, R.fps.elim fun f F => ⟨f, ⟨F.at_, F.emp, F.hs, F.old, F.mine, F.dis, F.g⟩⟩, R.grd, R.prm, R.exn⟩
theorem Rl.ofHs {Hs' H' : Hp} {σ' : L2.St} {δ' : DSt} (R : Rl K Z Hs H σ δ) (R' : Rl K (Z.hs Hs) Hs' H' σ' δ') : Rl K Z Hs' H' σ' δ' :=
  ⟨R'.len, R'.sub, R.ext.trans R'.ext, R'.fr, fun b n => (R'.new b n).elim (fun z => R.new b z) .inr, R'.hid, R'.shr, R'.fps.elim fun f F => ⟨f, ⟨F.at_, F.emp, F.hs, F.old, F.mine, F.dis, F.g⟩⟩, R'.grd, R'.prm, R'.exn⟩
theorem FrA.ofHs {Hs2 : Hp} {v : V} {s : Sl} {A : List Addr} (c : FrA K (Z.hs Hs2) Hs H σ δ v s A) : FrA K Z Hs H σ δ v s A :=
  ⟨c.at_, c.hs, c.mine, fun f F j a m m' => c.dis f ⟨F.at_, F.emp, F.hs, F.old, F.mine, F.dis, F.g⟩ j a m m', c.g⟩
/-- a slot is let go -/
theorem Rl.gone (R : Rl K Z Hs H σ δ) (i : Nat) : Rl K Z Hs H (σ.set i none) (δ.set i none) := by
  have R1 := R.reslot (σ' := σ.set i none) (vs := [i]) (List.length_set) fun j h => by
    rw [List.getElem?_set_ne]
    intro e
    exact h (by rw [e]; exact List.mem_singleton_self _)
  exact R1
end
def suEnds (i : Nat) (N : DEnds) : DEnds := ⟨fun δ => N.nx ((unxn δ).set i none), fun d δ => N.rt d (unxn δ), fun xs δ => N.ro xs (unxn δ), fun δ => N.bk ((unxn δ).set i none), fun δ => N.ct ((unxn δ).set i none)⟩
section
variable {X : Cx} {Z : Ent} {pos : Pos} {ex : Xd → DSt → Prop}
/-- M: of which classes the clause takes exceptions -/
def dTryAs (i : Nat) (M : Str → Option Bool) (ex : Xd → DSt → Prop) (tb : (Xd → DSt → Prop) → DS) (ts : DS) : DS := fun N δ => tb (fun x δ' => ∃ b, M x.C = some b ∧ (b = true → ts (suEnds i N) ((unxn δ').set i (some (.xn x.C)))) ∧ (b = false → ex x δ')) N δ
theorem ds_tryAs {x n : Str} {c : Value} {i : Nat} {M : Str → Option Bool} {body suite : List Stmt} {b₀ : Stmt} {np pos' : Pos} {tb : (Xd → DSt → Prop) → DS} {ts : DS} (xo : XOk X Z ex) (hs : X.stack = X.env :: X.outer) (hf : X.env.frame = some X.env.locals) (hN : X.N.Nodup) (hi : X.N[i]? = some n) (hln : X.env.kindOf n = some .local) (hc : Names X x c)
    (hM : ∀ C b, M C = some b → PySem.W.exmOne X.K (.ref (He.ga X.K C)) c = some b)
    (hb : ∀ (ex' : Xd → DSt → Prop) (pn : List (Addr × Obj)) (xe : Value → Shared → Prop) (Z' : Ent), XOk (X.tr pn xe) Z' ex' → PassesOwn (model X.prog X.w) X.A X.env xe → Dss (X.tr pn xe) Z' body (tb ex'))
    (hsu : ∀ (a : Addr) (oe : Obj) (C : Str) (pn : List (Addr × Obj)) (Z' : Ent), Z'.xa = some (a, C) → Zc (.ref (He.ga X.K C)) none oe → (∃ vs, oe.data = .fields vs) → Dss (X.suite a ((a, oe) :: pn)) Z' (b₀ :: suite) ts) :
    Ds X Z (.Try body [.ExceptHandler (some (.Name x np)) (some n) (b₀ :: suite) pos'] [] [] pos) (dTryAs i M ex tb ts) := by
  refine ⟨ps_imp (ps_try_as hs hf hN hi hln hc (takes_canon X)
    (tb := fun W D σ H => ∃ Hs δ N ex', Rl X.K Z Hs H σ δ ∧ EndsOk X.K Z Hs D N ∧ (∀ Hs' H' σ' δ' cls d x, Same Hs Hs' → Rl X.K Z Hs' H' σ' δ' → XAt X.K cls d x → ex' x δ' → W cls d σ' H') ∧ tb ex' N δ)
    (ts := fun a cls d D σ H => ∃ C, cls = .ref (He.ga X.K C) ∧ d = none ∧ ∃ Z', Z'.xa = some (a, C) ∧ lS X.K Z' ts D σ H)
    (fun W pn xe tk po => ⟨fun pins s σ H D I ⟨Hs, δ, N, ex', R, ok, hW, q⟩ => ?_⟩)
    (fun a oe cls d pn hz hd => ⟨fun pins s σ H D I ⟨C, e1, e2, Z', e3, q⟩ => ?_⟩)) fun D σ H ⟨Hs, δ, N, R, ok, q⟩ => ⟨Hs, δ, N, _, R, ok, fun Hs' H' σ' δ' cls d x s' R' xa z => ?_, q⟩⟩
  · refine (hb ex' pn xe (Z.hs Hs) (fun Hs' H' σ' δ' cls d x R' xa z => canon_of tk (hW Hs' H' σ' δ' cls d x R'.ext (R.ofHs R') xa z)) po).run.run pins s σ H D I ⟨Hs, δ, N, R.toHs, ⟨?_, ?_, ?_, ?_, ?_⟩, q⟩
    · exact fun σ5 δ5 Hs5 H5 s5 R5 q5 => ok.nx σ5 δ5 Hs5 H5 s5 (R.ofHs R5) q5
    · exact fun σ5 δ5 Hs5 H5 v d s5 R5 dp q5 => ok.rt σ5 δ5 Hs5 H5 v d s5 (R.ofHs R5) dp q5
    · exact fun σ5 δ5 Hs5 H5 v d s5 R5 c q5 => ok.ro σ5 δ5 Hs5 H5 v d s5 (R.ofHs R5) (c.elim fun A c => ⟨A, c.ofHs⟩) q5
    · exact fun σ5 δ5 Hs5 H5 s5 R5 q5 => ok.bk σ5 δ5 Hs5 H5 s5 (R.ofHs R5) q5
    · exact fun σ5 δ5 Hs5 H5 s5 R5 q5 => ok.ct σ5 δ5 Hs5 H5 s5 (R.ofHs R5) q5
  · subst e1 e2
    exact (hsu a oe C pn Z' e3 hz hd).run.run pins s σ H D I q
  · obtain ⟨b, hb1, hy, hn⟩ := z
    obtain ⟨rfl, h2, rfl⟩ := xa
    refine ⟨b, hM _ _ hb1, fun e a na => ⟨x.C, rfl, rfl, Z.su (some (a, x.C)), rfl, Hs', _, suEnds i N, R'.suite, ⟨?_, ?_, ?_, ?_, ?_⟩, hy e⟩, fun e => xo Hs' H' σ' δ' _ _ x R' ⟨rfl, h2, rfl⟩ (hn e)⟩
    · exact fun σ5 δ5 Hs5 H5 s5 R5 q5 => ok.nx _ _ Hs5 H5 (s'.trans s5) ((R5.unxn (xa := Z.xa)).gone i) q5
    · exact fun σ5 δ5 Hs5 H5 v d s5 R5 dp q5 => ok.rt _ _ Hs5 H5 v d (s'.trans s5) (R5.unxn (xa := Z.xa)) dp q5
    · exact fun σ5 δ5 Hs5 H5 v d s5 R5 c q5 => ok.ro _ _ Hs5 H5 v d (s'.trans s5) (R5.unxn (xa := Z.xa)) (c.elim fun A c => ⟨A, FrA.unxn (Z := Z.su (some (a, x.C))) (xa := Z.xa) R5 c⟩) q5
    · exact fun σ5 δ5 Hs5 H5 s5 R5 q5 => ok.bk _ _ Hs5 H5 (s'.trans s5) ((R5.unxn (xa := Z.xa)).gone i) q5
    · exact fun σ5 δ5 Hs5 H5 s5 R5 q5 => ok.ct _ _ Hs5 H5 (s'.trans s5) ((R5.unxn (xa := Z.xa)).gone i) q5
class XSMono (t : (Xd → DSt → Prop) → DS) : Prop where
  m : ∀ (ex ex' : Xd → DSt → Prop) (N N' : DEnds) (δ : DSt), (∀ x δ, ex x δ → ex' x δ) → N.Le N' → t ex N δ → t ex' N' δ
instance {i : Nat} {M : Str → Option Bool} {tb : (Xd → DSt → Prop) → DS} {ts : DS} [XSMono tb] [SMono ts] : SMono (dTryAs i M ex tb ts) := ⟨fun N N' δ le q => by
  refine XSMono.m (t := tb) _ _ _ _ _ (fun x δ' ⟨b, e, h1, h2⟩ => ⟨b, e, fun z => SMono.m (t := ts) _ _ _ ⟨fun _ z => le.nx _ z, fun _ _ z => le.rt _ _ z, fun _ _ z => le.ro _ _ z, fun _ z => le.bk _ z, fun _ z => le.ct _ z⟩ (h1 z), h2⟩) le q⟩
instance {f : FX} {dd : List PyData} {l : DL'} [XMono f] [LMono l] : XSMono (fun ex => dDrop (dCallX ex f dd l)) := ⟨fun ex ex' N N' δ hx le q => LMono.m (t := l) _ _ _ (fun ds δ' z => XMono.m (f := f) _ _ _ _ _ (fun r z => le.nx _ z) (fun x z => hx _ _ z) z) q⟩
/-! ### isinstance of the exception -/
def dIsE (i : Nat) (M : Str → Option Bool) : DE := fun δ Q => match δ[i]? with
  | some (some (.xn C)) => ∃ b, M C = some b ∧ Q (.bool b) δ
  | _ => False
instance {i : Nat} {M : Str → Option Bool} : EMono (dIsE i M) := ⟨fun δ Q Q' hq q => by
  unfold dIsE at q ⊢
  split at q
  · obtain ⟨b, e, q⟩ := q
    exact ⟨b, e, hq _ _ q⟩
  · exact q⟩
theorem de_isE (i : Nat) {M : Str → Option Bool} {a : Addr} {oe : Obj} {C y : Str} {pn : List (Addr × Obj)} {Z' : Ent} {cE : Expr} {c : V} {cv : Value} {p py : Pos} (hxa : Z'.xa = some (a, C)) (hz : Zc (.ref (He.ga X.K C)) none oe) (hf : ∃ vs, oe.data = .fields vs) (ec : M C ≠ none → ExcC X.K (He.ga X.K C)) (hc : PE (X.suite a ((a, oe) :: pn)) cE (tC c)) (hcv : ∀ u, RelV c u → u = cv)
    (hM : ∀ b, M C = some b → PySem.W.kitOne X.K (.ref (He.ga X.K C)) cv = some b) (hg : Gl (X.suite a ((a, oe) :: pn)) "isinstance") (hm : X.mg "isinstance" = none) (hv : bootBuiltins "isinstance" = some (.builtin "isinstance"))
    (hN : X.N[i]? = some y := by rfl) (hvi : Vis X.env.scope y := by first | exact Or.inl rfl | exact Or.inr (Or.inl rfl) | exact Or.inr (Or.inr rfl)) (hd : (y == ("__debug__" : Str)) = false := by decide) (hcd : (y == ("__classdict__" : Str)) = false := by decide)
    (h1 : starEach [.Name y py, cE] X.env = (false, eval (.Name y py) X.env) :: starEach [cE] X.env := by rfl) (h2 : starEach [cE] X.env = (false, eval cE X.env) :: starEach [] X.env := by rfl) (hpl : (backTo pos (starEach [cE] X.env)).any (·.1) = false := by rfl) :
    De (X.suite a ((a, oe) :: pn)) Z' (.Call (.Name "isinstance" p) [.Name y py, cE] [] pos) (dIsE i M) := by
  by_cases hn : M C = none
  · refine ⟨⟨fun pins s σ H Q I ⟨Hs, δ, R, q⟩ => ?_⟩, EMono.m (t := dIsE i M)⟩
    unfold dIsE at q
    split at q
    · rename_i C' e
      obtain ⟨b, e1, q⟩ := q
      obtain ⟨a', h1, h2⟩ := R.exn i C' e
      rw [hxa] at h2
      cases h2
      rw [hn] at e1
      cases e1
    · exact q.elim
  · refine ⟨pe_imp (pe_callB (call_isE (ec hn) hz hf) hg hm hv (pa_cons (pe_var (X := X.suite a ((a, oe) :: pn)) hN hvi hd hcd) (pa_cons hc pa_nil h2) h1) (by decide) (by decide) h1 hpl) fun σ H Q ⟨Hs, δ, R, q⟩ => ?_, EMono.m (t := dIsE i M)⟩
    unfold dIsE at q
    split at q
    · rename_i C' e
      obtain ⟨b, e1, q⟩ := q
      obtain ⟨a', h1, h2⟩ := R.exn i C' e
      rw [hxa] at h2
      cases h2
      exact ⟨_, h1, c, cv, b, rfl, hcv, hM b e1, q _ Hs H (Same.refl _) R (.bl _)⟩
    · exact q.elim
end
end DL

namespace DL
open PySem PySem.Spec L2 PyProof.Rows
theorem powB90 {i j : Int} (h1 : -1237940039285380274899124224 < i) (h2 : i < 1237940039285380274899124224) (h3 : 0 ≤ j) (h4 : j ≤ 1000000) : CPowB i j := by
  have e : (2 : Nat) ^ 90 = 1237940039285380274899124224 := by decide
  exact powB (b := 90) (by omega) h3 (by omega)
theorem noxn_sh {d : PyData} : noxn (some (.sh d)) = some (.sh d) := rfl
theorem noxn_ow {p : Bool} {xs : List PyData} : noxn (some (.ow p xs)) = some (.ow p xs) := rfl
theorem noxn_none : noxn none = none := rfl
theorem noxn_xn {C : Str} : noxn (some (.xn C)) = none := rfl
/-! ### facts about exception classes -/
/-- a class by its name: an own one, a built-in one -/
inductive CN where
  | own (x : Str)
  | ty (n : String)
def CN.val (K : Fg) : CN → Value
  | .own x => .ref (He.ga K x)
  | .ty n => .type n
def CN.v (K : Fg) : CN → V
  | .own x => .ref (He.ga K x)
  | .ty n => .ty n
theorem CN.cls {K : Fg} (c : CN) : ClsV (c.v K) (c.val K) := by
  cases c with
  | own x => exact .own _
  | ty n => exact .ty n
def excBases : List (String × List Value) := [("ValueError.__new__", [.type "ValueError", .type "Exception", .type "BaseException", .type "object"]),
  ("ZeroDivisionError.__new__", [.type "ZeroDivisionError", .type "ArithmeticError", .type "Exception", .type "BaseException", .type "object"]),
  ("IndexError.__new__", [.type "IndexError", .type "LookupError", .type "Exception", .type "BaseException", .type "object"])]
theorem excBases_ok {n : String} {bm : List Value} (h : (n, bm) ∈ excBases) : ∃ B initId, ExcBaseFacts B n initId bm := by
  simp only [excBases, List.mem_cons, List.not_mem_nil, or_false, Prod.mk.injEq] at h
  rcases h with ⟨rfl, rfl⟩ | ⟨rfl, rfl⟩ | ⟨rfl, rfl⟩
  · exact ⟨_, _, PySem.F.excBase_ValueError⟩
  · exact ⟨_, _, PySem.F.excBase_ZeroDivisionError⟩
  · exact ⟨_, _, PySem.F.excBase_IndexError⟩
inductive Fb where
  | exd (x : Str)
  | exm (c : CN) (l : List (Str × Bool))
  | kit (c : CN) (l : List (Str × Bool))
  | kits (cs : List CN) (l : List (Str × Bool))
  | exi (l : List (Str × Bool))
def exiB (K : Fg) (x : Str) : Bool := decide (PySem.W.findIn K (.ref (He.ga K x)) "__getattribute__" = some (some (.builtin "BaseException.__getattribute__"))) && (decide (PySem.W.findIn K (.ref (He.ga K x)) "__getattr__" = some none) && (decide (PySem.W.subIn K (.ref (He.ga K x)) (.type "BaseException") = some true) && (PySem.W.hasDictIn K (He.ga K x) &&
      (decide (PySem.W.findIn K (.ref (He.ga K x)) "__class__" = some (some (.builtin "object.__class__"))) && (decide (PySem.W.specialIn K (.builtin "object.__class__") "__get__" = some (some (.builtin "getset_descriptor.__get__"))) && (decide (PySem.W.takesIn K (.builtin "object.__class__") = some true) && decide (PySem.W.mroIn K (He.ga K x) (.type "object") = some true)))))))
def Fb.ok (K : Fg) : Fb → Bool
  | .exd x => excBases.any (fun p => PySem.W.excIn K (He.ga K x) p.2 p.1) && (PySem.W.keepIn K (.ref (He.ga K x)) && (decide (PySem.W.subIn K (.ref (He.ga K x)) (.type "BaseException") = some true) && decide (PySem.W.typeIn K (.ref (He.ga K x)) = some (.type "type"))))
  | .exm c l => l.all fun p => decide (PySem.W.exmOne K (.ref (He.ga K p.1)) (c.val K) = some p.2)
  | .kit c l => l.all fun p => decide (PySem.W.kitOne K (.ref (He.ga K p.1)) (c.val K) = some p.2)
  | .kits cs l => l.all fun p => decide (PySem.W.kitAny K (.ref (He.ga K p.1)) (cs.map (CN.val K)) = some p.2)
  | .exi l => l.all fun p => exiB K p.1
section
variable {K : Fg}
theorem exd_ok {x : Str} (c : (Fb.exd x).ok K = true) : ExD K x := by
  obtain ⟨c1, c⟩ := He.ba c
  obtain ⟨c2, c⟩ := He.ba c
  obtain ⟨c3, c4⟩ := He.ba c
  obtain ⟨⟨n, bm⟩, m, h⟩ := List.any_eq_true.mp c1
  obtain ⟨B, i, F⟩ := excBases_ok m
  exact ⟨⟨B, n, i, bm, F, h⟩, c2, of_decide_eq_true c3, of_decide_eq_true c4⟩
theorem look_all {α : Type} {p : Str × α → Bool} : ∀ {l : List (Str × α)} {x : Str} {b : α}, l.all p = true → l.lookup x = some b → p (x, b) = true
  | [], _, _, _, h => nomatch h
  | (y, c) :: r, x, b, h1, h2 => by
    rw [List.all_cons, Bool.and_eq_true] at h1
    unfold List.lookup at h2
    split at h2
    · rename_i e
      cases h2
      rw [eq_of_beq e]
      exact h1.1
    · exact look_all h1.2 h2
theorem exm_okB {c : CN} {l : List (Str × Bool)} (h : (Fb.exm c l).ok K = true) : ∀ C b, l.lookup C = some b → PySem.W.exmOne K (.ref (He.ga K C)) (c.val K) = some b := fun C b e => of_decide_eq_true (look_all (p := fun p => decide (PySem.W.exmOne K (.ref (He.ga K p.1)) (c.val K) = some p.2)) h e)
theorem kit_okB {c : CN} {l : List (Str × Bool)} (h : (Fb.kit c l).ok K = true) : ∀ C b, l.lookup C = some b → PySem.W.kitOne K (.ref (He.ga K C)) (c.val K) = some b := fun C b e => of_decide_eq_true (look_all (p := fun p => decide (PySem.W.kitOne K (.ref (He.ga K p.1)) (c.val K) = some p.2)) h e)
theorem kits_okB {cs : List CN} {l : List (Str × Bool)} (h : (Fb.kits cs l).ok K = true) : ∀ C b, l.lookup C = some b → PySem.W.kitAny K (.ref (He.ga K C)) (cs.map (CN.val K)) = some b := fun C b e => of_decide_eq_true (look_all (p := fun p => decide (PySem.W.kitAny K (.ref (He.ga K p.1)) (cs.map (CN.val K)) = some p.2)) h e)
theorem exiB_ok {x : Str} (c : exiB K x = true) : ExcC K (He.ga K x) := by
  obtain ⟨c1, c⟩ := He.ba c
  obtain ⟨c2, c⟩ := He.ba c
  obtain ⟨c3, c⟩ := He.ba c
  obtain ⟨c4, c⟩ := He.ba c
  obtain ⟨c5, c⟩ := He.ba c
  obtain ⟨c6, c⟩ := He.ba c
  obtain ⟨c7, c8⟩ := He.ba c
  exact ⟨of_decide_eq_true c1, of_decide_eq_true c2, of_decide_eq_true c3, c4, of_decide_eq_true c5, of_decide_eq_true c6, of_decide_eq_true c7, of_decide_eq_true c8⟩
theorem exi_ok {l : List (Str × Bool)} (h : (Fb.exi l).ok K = true) : ∀ C, l.lookup C ≠ none → ExcC K (He.ga K C) := fun C n => by
  cases e : l.lookup C with
  | none => exact absurd e n
  | some b => exact exiB_ok (look_all (p := fun p => exiB K p.1) h e)
end
/-! ### the hook -/
abbrev AlB : Type := AlC × Bool
def obsB (fa : List He.Fa) (fn : List He.DefD) (cs : List (Str × PyData)) (fb : List Fb) (K : PySem.W.Frag) : AlB := (obsC fa fn cs K, fb.all (Fb.ok K))
def obsBG (n : Nat) (fa : List He.Fa) (fn : List He.DefD) (cs : List (Str × PyData)) (fb : List Fb) (g : Addr → Option Obj) : AlB := obsB fa fn cs fb (He.frG g (He.asD g n))
def SaysB (fa : List He.Fa) (fn : List He.DefD) (cs : List (Str × PyData)) (fb : List Fb) (K : PySem.W.Frag) : Prop := obsB fa fn cs fb K = ((He.valD fn, true), true)
def hookB (n : Nat) (fa : List He.Fa) (fn : List He.DefD) (cs : List (Str × PyData)) (fb : List Fb) : PySem.W.Hook where
  α := AlB
  obs := fun s => obsBG n fa fn cs fb s.heap.get?
  val := fun _ => ((He.valD fn, true), true)
  says := fun _ h => ∃ K : PySem.W.Frag, K.In h ∧ SaysB fa fn cs fb K
  of := fun _ _ e => ⟨_, He.frG_in, e⟩
  keeps := fun _ _ _ ⟨K, hK, c⟩ k => ⟨K, PySem.W.Frag.In.keeps hK k, c⟩
theorem obsBG_eq {n : Nat} {fa : List He.Fa} {fn : List He.DefD} {cs : List (Str × PyData)} {fb : List Fb} {g : Addr → Option Obj} {s : Shared} (h : ∀ a, g a = s.heap.get? a) : obsBG n fa fn cs fb g = (hookB n fa fn cs fb).obs s := by
  have e : g = s.heap.get? := funext h
  rw [e] <;> rfl
section
variable {fa : List He.Fa} {fn : List He.DefD} {cs : List (Str × PyData)} {fb : List Fb} {K : PySem.W.Frag}
theorem SaysB.c (c : SaysB fa fn cs fb K) : SaysC fa fn cs K := congrArg (fun z : AlB => z.1) c
theorem SaysB.b (c : SaysB fa fn cs fb K) (i : Nat) {f : Fb} (e : fb[i]? = some f := by rfl) : f.ok K = true := List.all_eq_true.mp (show fb.all (Fb.ok K) = true from congrArg (fun z : AlB => z.2) c) _ (List.mem_of_getElem? e)
end
/-! ### isinstance(e, (A, B, ..)) of the exception -/
section
variable {X : Cx} {pos : Pos}
/-- a class's name -/
theorem pe_cn {x : Str} {c : CN} {p : Pos} (hg : Gl X x) (h : (c = .own x ∧ X.mg x = some (.ref (He.ga X.K x))) ∨ (∃ n, c = .ty n ∧ X.mg x = none ∧ bootBuiltins x = some (.type n) ∧ x ≠ "__name__")) (hd : (x == ("__debug__" : Str)) = false := by decide) : PE X (.Name x p) (tC (c.v X.K)) := by
  rcases h with ⟨rfl, h⟩ | ⟨n, rfl, h1, h2, h3⟩
  · exact pe_glob hg h rfl hd
  · exact pe_bltn hg h1 h2 rfl h3 hd
theorem de_isE1 (i : Nat) {l : List (Str × Bool)} {a : Addr} {oe : Obj} {C y x : Str} {c : CN} {pn : List (Addr × Obj)} {Z' : Ent} {p py px : Pos} (hxa : Z'.xa = some (a, C)) (hz : Zc (.ref (He.ga X.K C)) none oe) (hf : ∃ vs, oe.data = .fields vs) (ec : ∀ C, l.lookup C ≠ none → ExcC X.K (He.ga X.K C)) (hM : ∀ C b, l.lookup C = some b → PySem.W.kitOne X.K (.ref (He.ga X.K C)) (c.val X.K) = some b)
    (hgx : Gl (X.suite a ((a, oe) :: pn)) x) (hx : (c = .own x ∧ X.mg x = some (.ref (He.ga X.K x))) ∨ (∃ n, c = .ty n ∧ X.mg x = none ∧ bootBuiltins x = some (.type n) ∧ x ≠ "__name__"))
    (hg : Gl (X.suite a ((a, oe) :: pn)) "isinstance") (hm : X.mg "isinstance" = none) (hv : bootBuiltins "isinstance" = some (.builtin "isinstance"))
    (hdx : (x == ("__debug__" : Str)) = false := by decide) (hN : X.N[i]? = some y := by rfl) (hvi : Vis X.env.scope y := by first | exact Or.inl rfl | exact Or.inr (Or.inl rfl) | exact Or.inr (Or.inr rfl)) (hd : (y == ("__debug__" : Str)) = false := by decide) (hcd : (y == ("__classdict__" : Str)) = false := by decide) :
    De (X.suite a ((a, oe) :: pn)) Z' (.Call (.Name "isinstance" p) [.Name y py, .Name x px] [] pos) (dIsE i (fun C => l.lookup C)) :=
  de_isE i hxa hz hf (ec C) (pe_cn (X := X.suite a ((a, oe) :: pn)) hgx hx hdx) (fun u r => (CN.cls c).eq r) (fun b => hM C b) hg hm hv hN hvi hd hcd
/-- isinstance(e, (c1, ..)) -/
def rIsET (K : PySem.W.Frag) (D a : Addr) : List V → Hp → VK → Prop := fun xs H Q => ∃ (tp : Addr) (cs : List V) (us : List Value) (b : Bool), xs = [.ref a, .ref tp] ∧ H tp = some (.tup cs) ∧ Paired ClsV cs us ∧ PySem.W.kitAny K (.ref D) us = some b ∧ Q (.bl b) H
theorem call_isET {a D : Addr} {oe : Obj} {pn : List (Addr × Obj)} (C : ExcC X.K D) (hz : Zc (.ref D) none oe) (hf : ∃ vs, oe.data = .fields vs) : CallR (X.suite a ((a, oe) :: pn)) (.builtin "isinstance") (rIsET X.K D a) := by
  intro pins s σ H xs us Q I r h
  obtain ⟨tp, cs, ws, b, rfl, hT, k, e, q⟩ := h
  obtain ⟨u1, u2, rfl, r1, r2⟩ := vals2 r
  cases (show u2 = Value.ref tp from r2)
  cases (show u1 = Value.ref a from r1)
  obtain ⟨_, its, rv, o, h1, h2, n, h3⟩ := (show ObjOk X.prog X.w H s.heap tp (.tup cs) from I.hok tp _ hT)
  have e3 := ClsV.all k rv
  subst e3
  obtain ⟨oc, od, dt, sl⟩ := o
  simp only at h2 h3
  subst h2 h3
  obtain ⟨hget, _⟩ := I.pin (a, oe) (List.mem_append.mpr (.inl List.mem_cons_self))
  obtain ⟨vs, hv⟩ := hf
  have J : PySem.W.InstAt s.heap a oe D none := by
    obtain ⟨oc, od, oda, osl⟩ := oe
    obtain ⟨h1, h2⟩ := hz
    dsimp only at h1 h2 hv
    subst h1 h2 hv
    exact ⟨hget, rfl, rfl, trivial⟩
  exact PySem.W.kia_tup (PySem.W.handS_kitx_exc C.hg C.hk C.hs C.hd C.ha C.hn C.ht C.hm) I.kIn J h1 e (fun z => nomatch z) fun tk => ⟨.bl b, H, I.kept (t' := tk) fun _ _ z => z, rfl, q⟩
/-- a tuple of classes -/
structure PCs (X : Cx) (es : List Expr) (cs : List CN) : Prop where
  run : PA X es (fun σ H Q => Q (cs.map (CN.v X.K)) H)
theorem pcs_nil : PCs X [] [] := ⟨⟨fun pos pins s σ H Q I q => pa_nil.run pos pins s σ H Q I q⟩⟩
theorem pcs_cons {x : Str} {p : Pos} {es : List Expr} {c : CN} {cs : List CN} (hg : Gl X x) (h : (c = .own x ∧ X.mg x = some (.ref (He.ga X.K x))) ∨ (∃ n, c = .ty n ∧ X.mg x = none ∧ bootBuiltins x = some (.type n) ∧ x ≠ "__name__")) (r : PCs X es cs) (hd : (x == ("__debug__" : Str)) = false := by decide)
    (hs : starEach (.Name x p :: es) X.env = (false, eval (.Name x p) X.env) :: starEach es X.env := by rfl) : PCs X (.Name x p :: es) (c :: cs) :=
  ⟨pa_imp (pa_cons (pe_cn hg h hd) r.run hs) fun σ H Q q => q⟩
theorem paired_cn {K : Fg} : ∀ cs : List CN, Paired ClsV (cs.map (CN.v K)) (cs.map (CN.val K))
  | [] => .nil
  | c :: r => .cons (CN.cls c) (paired_cn r)
theorem de_isET (i : Nat) {l : List (Str × Bool)} {a : Addr} {oe : Obj} {C y : Str} {cs : List CN} {es : List Expr} {kk} {pn : List (Addr × Obj)} {Z' : Ent} {p py px : Pos} (hxa : Z'.xa = some (a, C)) (hz : Zc (.ref (He.ga X.K C)) none oe) (hf : ∃ vs, oe.data = .fields vs) (ec : ∀ C, l.lookup C ≠ none → ExcC X.K (He.ga X.K C)) (hM : ∀ C b, l.lookup C = some b → PySem.W.kitAny X.K (.ref (He.ga X.K C)) (cs.map (CN.val X.K)) = some b)
    (hcs : PCs (X.suite a ((a, oe) :: pn)) es cs) (hlen : cs.length ≤ sizeLine)
    (hg : Gl (X.suite a ((a, oe) :: pn)) "isinstance") (hm : X.mg "isinstance" = none) (hv : bootBuiltins "isinstance" = some (.builtin "isinstance"))
    (hN : X.N[i]? = some y := by rfl) (hvi : Vis X.env.scope y := by first | exact Or.inl rfl | exact Or.inr (Or.inl rfl) | exact Or.inr (Or.inr rfl)) (hd : (y == ("__debug__" : Str)) = false := by decide) (hcd : (y == ("__classdict__" : Str)) = false := by decide)
    (h1 : starEach [.Name y py, .Tuple es kk px] X.env = (false, eval (.Name y py) X.env) :: starEach [.Tuple es kk px] X.env := by rfl) (h2 : starEach [.Tuple es kk px] X.env = (false, eval (.Tuple es kk px) X.env) :: starEach [] X.env := by rfl) (hpl : (backTo pos (starEach [.Tuple es kk px] X.env)).any (·.1) = false := by rfl) :
    De (X.suite a ((a, oe) :: pn)) Z' (.Call (.Name "isinstance" p) [.Name y py, .Tuple es kk px] [] pos) (dIsE i (fun C => l.lookup C)) := by
  by_cases hn : l.lookup C = none
  · refine ⟨⟨fun pins s σ H Q I ⟨Hs, δ, R, q⟩ => ?_⟩, EMono.m (t := dIsE i _)⟩
    unfold dIsE at q
    split at q
    · rename_i C' e
      obtain ⟨b, e1, q⟩ := q
      obtain ⟨a', h1, h2⟩ := R.exn i C' e
      rw [hxa] at h2
      cases h2
      have e1 : l.lookup C = some b := e1
      rw [hn] at e1
      cases e1
    · exact q.elim
  · refine ⟨pe_imp (pe_callB (call_isET (ec C hn) hz hf) hg hm hv (pa_cons (pe_var (X := X.suite a ((a, oe) :: pn)) hN hvi hd hcd) (pa_cons (pe_tup hcs.run) pa_nil h2) h1) (by decide) (by decide) h1 hpl) fun σ H Q ⟨Hs, δ, R, q⟩ => ?_, EMono.m (t := dIsE i _)⟩
    unfold dIsE at q
    split at q
    · rename_i C' e
      obtain ⟨b, e1, q⟩ := q
      obtain ⟨a', h1, h2⟩ := R.exn i C' e
      rw [hxa] at h2
      cases h2
      exact ⟨_, h1, by rw [List.length_map]; exact hlen, fun tp np => ⟨tp, _, _, b, rfl, upd_same, paired_cn cs, hM C b e1, q _ Hs _ (Same.refl _) (R.allocO np) (.bl _)⟩⟩
    · exact q.elim
/-- f() -/
theorem de_call0 {Z : Ent} {k : Nat} {g : Addr} {fd : FuncData} {ps : List Str} {f : FP} {x : Str} {p : Pos} (F : FnOk X.prog X.w X.K X.mg X.base CX0 k g fd ps (spP X.K f)) (fm : FMono f) (hr : Room k X.A) (hg : Gl X x) (hm : X.mg x = some (.ref g)) (hk : PySem.W.keepIn X.K (.ref g) = true) (hb : Binds X.K fd ps [])
    (hdb : (x == ("__debug__" : Str)) = false := by decide) : De X Z (.Call (.Name x p) [] [] pos) (dCall f [] dNil) := by
  refine ⟨pe_imp (pe_call0 F hr hg hm hk hb .nil pass0 hdb (E := E0)) fun σ H Q ⟨Hs, δ, R, q⟩ => ?_, fun δ Q Q' hq q => fm.m _ _ _ (fun r z => hq _ _ z) q⟩
  have := call_run (dvs := []) (dd := []) fm (fun _ => .nil) R (vs := []) (ds := []) .nil (Q := Q) (fm.m _ _ _ (fun r q v Hs2 H2 s2 R2 c => ?_) q)
  · exact this
  · cases r with
    | d d => exact q v Hs2 H2 s2 R2 c
    | o xs =>
      obtain ⟨Hs3, s3, R3, dp⟩ := FrO.share R2 c
      exact q v Hs3 H2 (s2.trans s3) R3 dp
end
end DL

/-! DYa: lists of one's own lists. -/
namespace DL
open PySem PySem.Spec L2 PyProof.Rows
section
variable {K : Fg} {Hs H Hs' H' : Hp} {Z : Ent} {σ : L2.St} {δ : DSt}
theorem LsAt.len {vs : List V} {xss : List (List PyData)} {A : List Addr} (h : LsAt K Hs H vs xss A) : vs.length = xss.length ∧ A.length = xss.length := by
  induction h with
  | nil => exact ⟨rfl, rfl⟩
  | cons _ _ _ ih => simp only [List.length_cons]; omega
theorem LsAt.get {vs : List V} {xss : List (List PyData)} {A : List Addr} (h : LsAt K Hs H vs xss A) : ∀ (n : Nat) (xs : List PyData), xss[n]? = some xs → ∃ b ws, vs[n]? = some (.ref b) ∧ A[n]? = some b ∧ H b = some (.lst ws) ∧ DpAll K Hs ws xs := by
  induction h with
  | nil => exact fun n xs e => nomatch e
  | cons h1 h2 _ ih =>
    intro n xs e
    cases n with
    | zero => cases e; exact ⟨_, _, rfl, rfl, h1, h2⟩
    | succ n => exact ih n xs e
theorem LsAt.set {vs : List V} {xss : List (List PyData)} {A : List Addr} (h : LsAt K Hs H vs xss A) : A.Nodup → ∀ (n : Nat) (b : Addr), A[n]? = some b → ∀ (ws' : List V) (xs' : List PyData), DpAll K Hs ws' xs' → LsAt K Hs (upd H b (.lst ws')) vs (xss.set n xs') A := by
  induction h with
  | nil => exact fun _ n b e => nomatch e
  | @cons a ws vs xs xss A h1 h2 h3 ih =>
    intro nd n b e ws' xs' d
    obtain ⟨na, nd'⟩ := List.nodup_cons.mp nd
    cases n with
    | zero =>
      cases e
      exact .cons upd_same d (h3.fr (Same.refl _) fun c m => upd_ne fun q => na (q ▸ m))
    | succ n =>
      refine .cons ?_ h2 (ih nd' n b e ws' xs' d)
      have mb : b ∈ A := List.mem_of_getElem? e
      have ne : a ≠ b := fun q => na (by rw [q]; exact mb)
      rw [upd_ne ne]
      exact h1
theorem LsAt.app {vs us : List V} {xss yss : List (List PyData)} {A B : List Addr} (h : LsAt K Hs H vs xss A) (h' : LsAt K Hs H us yss B) : LsAt K Hs H (vs ++ us) (xss ++ yss) (A ++ B) := by
  induction h with
  | nil => exact h'
  | cons h1 h2 _ ih => exact .cons h1 h2 ih
theorem LsAt.dp {vs : List V} {xss : List (List PyData)} {A : List Addr} (h : LsAt K Hs H vs xss A) (e : Same Hs Hs') (k : ∀ a ∈ A, Hs' a = H a) : DpAll K Hs' vs (xss.map PyData.list) := by
  induction h with
  | nil => exact .nil
  | cons h1 h2 _ ih => exact .cons (.lst (SqL.of ((k _ (List.mem_cons_self ..)).trans h1)) (h2.up e)) (ih fun a m => k a (List.mem_cons_of_mem _ m))
/-- a slot of which nothing is known may hold anything -/
theorem Rl.junk (R : Rl K Z Hs H σ δ) {j : Nat} {v : V} (h : ∀ s, δ[j]? ≠ some (some s)) : Rl K Z Hs H (σ.set j (some v)) δ := by
  have ne : ∀ (k : Nat) (s : Sl), δ[k]? = some (some s) → j ≠ k := fun k s e q => h s (q ▸ e)
  refine ⟨by rw [List.length_set, R.len], R.sub, R.ext, R.fr, R.new, R.hid, fun k d z => ?_, ?_, R.grd, fun k s z p => ?_, fun k C z => ?_⟩
  · rw [List.getElem?_set_ne (ne k _ z)]; exact R.shr k d z
  · obtain ⟨f, F⟩ := R.fps
    refine ⟨f, ⟨fun k s z o => ?_, F.emp, F.hs, F.old, F.mine, F.dis, F.g⟩⟩
    rw [List.getElem?_set_ne (ne k _ z)]; exact F.at_ k s z o
  · rw [List.getElem?_set_ne (ne k _ z)]; exact R.prm k s z p
  · rw [List.getElem?_set_ne (ne k _ z)]; exact R.exn k C z
/-- a list of lists is lent -/
def lentN (δ : DSt) (i : Nat) (xss : List (List PyData)) : DSt := (δ.map unown).set i (some (.sh (.list (xss.map .list))))
theorem lend_inN {i : Nat} {p : Bool} {xss : List (List PyData)} (R : Rl K Z Hs H σ δ) (h : δ[i]? = some (some (Sl.ob p (.nst xss)))) : ∃ Hs1, Rl K (.at H Hs1 [] []) Hs1 H σ (lentN δ i xss) := by
  classical
  obtain ⟨Hs1, s1, R1⟩ := lend_all R
  obtain ⟨f, F⟩ := R.fps
  obtain ⟨v, hv, hat⟩ := F.at_ i _ h rfl
  generalize f i = B at hat
  cases hat with
  | @nst a _ vs _ A h1 h2 h3 =>
    let Hs2 : Hp := fun b => if b ∈ a :: A then H b else Hs1 b
    have s2 : Same Hs1 Hs2 := fun b o e => by
      show (if b ∈ a :: A then H b else Hs1 b) = some o
      split
      · exact R1.sub b o e
      · exact e
    have sub : Same Hs2 H := fun b o e => by
      have e : (if b ∈ a :: A then H b else Hs1 b) = some o := e
      split at e
      · exact e
      · exact R1.sub b o e
    have hk : ∀ b ∈ a :: A, Hs2 b = H b := fun b m => by
      show (if b ∈ a :: A then H b else Hs1 b) = H b
      rw [if_pos m]
    have hi : i < (δ.map unown).length := by rw [List.length_map]; exact get_lt h
    have shd : ∀ (k : Nat) (s : Sl), (lentN δ i xss)[k]? = some (some s) → ∃ d, s = .sh d := fun k s z => by
      rcases get_set z with ⟨_, z⟩ | ⟨_, z⟩
      · cases z; exact ⟨_, rfl⟩
      · rw [List.getElem?_map] at z
        cases e : δ[k]? with
        | none => rw [e] at z; cases z
        | some o =>
          rw [e] at z
          have z : unown o = some s := Option.some.inj z
          unfold unown at z
          split at z <;> cases z <;> exact ⟨_, rfl⟩
    refine ⟨Hs2, ⟨by unfold lentN; rw [List.length_set]; exact R1.len, sub, Same.refl _, fun b o e n => e, fun b n => .inl n, fun b m => (nomatch m), fun k d z => ?_, ⟨fun _ => [], ⟨fun k s z o => ?_, fun _ _ => rfl, fun k b m => (nomatch m), fun k b m => (nomatch m), fun k s b z q m => (nomatch m), fun k l b n m => (nomatch m), fun k b o m => nomatch m⟩⟩, fun b o m => (nomatch m), fun k s z q => ?_, fun k C z => ?_⟩⟩
    · rcases get_set z with ⟨rfl, z'⟩ | ⟨ne, z⟩
      · cases z'
        exact ⟨_, hv, .lst (SqL.of ((hk a (List.mem_cons_self ..)).trans h1)) (h2.dp (s1.trans s2) fun b m => hk b (List.mem_cons_of_mem _ m))⟩
      · obtain ⟨u, q1, q2⟩ := R1.shr k d z
        exact ⟨u, q1, q2.up s2⟩
    · obtain ⟨d, rfl⟩ := shd k s z
      cases o
    · obtain ⟨d, rfl⟩ := shd k s z
      cases q
    · obtain ⟨d, e⟩ := shd k _ z
      cases e
end
section
variable {X : Cx} {Z : Ent} {pos : Pos}
def dLendN (i : Nat) (t : DE) : DE := fun δ Q => match δ[i]? with
  | some (some (.ob _ (.nst xss))) => t (lentN δ i xss) fun d _ => flatD d = true ∧ Q d δ
  | _ => False
theorem de_lendN (i : Nat) {e : Expr} {t : DE} (h : ∀ Z : Ent, De X Z e t) : De X Z e (dLendN i t) := by
  refine ⟨⟨fun pins s σ H Q I q => ?_⟩, fun δ Q Q' hq q => ?_⟩
  · obtain ⟨Hs, δ, R, q⟩ := q
    unfold dLendN at q
    split at q
    · rename_i p xss e0
      obtain ⟨Hs1, R1⟩ := lend_inN R e0
      refine (h (.at H Hs1 [] [])).run.run pins s σ H Q I ⟨_, _, R1, (h Z).mono _ _ _ (fun d δ' z v Hs2 H2 s2 R2 dp => ?_) q⟩
      exact z.2 v Hs H2 (Same.refl _) (lend_out R R2) (dp_flat z.1 dp)
    · exact q.elim
  · unfold dLendN at q ⊢
    split at q
    · exact (h Z).mono _ _ _ (fun d δ' z => ⟨z.1, hq _ _ z.2⟩) q
    · exact q.elim
instance {i : Nat} {t : DE} [EMono t] : EMono (dLendN i t) := ⟨fun δ Q Q' hq q => by
  unfold dLendN at q ⊢
  split at q
  · exact EMono.m (t := t) _ _ _ (fun d δ' z => ⟨z.1, hq _ _ z.2⟩) q
  · exact q.elim⟩
/-! ### new lists of lists -/
abbrev DB := DSt → (List (List PyData) → DSt → Prop) → Prop
def lB (K : Fg) (Z : Ent) (t : DB) : TE := fun σ H Q => ∃ Hs δ, Rl K Z Hs H σ δ ∧ t δ fun xss δ' => ∀ v Hs' H' A, Same Hs Hs' → Rl K Z Hs' H' σ δ' → FrA K Z Hs' H' σ δ' v (.ob false (.nst xss)) A → Q v H'
structure Db (X : Cx) (Z : Ent) (e : Expr) (t : DB) : Prop where
  run : PE X e (lB X.K Z t)
  mono : ∀ (δ : DSt) (Q Q' : List (List PyData) → DSt → Prop), (∀ d δ', Q d δ' → Q' d δ') → t δ Q → t δ Q'
theorem FrA.grow {K : Fg} {Hs H H' : Hp} {σ : L2.St} {δ : DSt} {v : V} {s : Sl} {A : List Addr} (R : Rl K Z Hs H σ δ) (h : FrA K Z Hs H σ δ v s A) (keep : ∀ (b : Addr) (o : HO), H b = some o → H' b = some o) : FrA K Z Hs H' σ δ v s A := by
  refine ⟨h.at_.fr (Same.refl _) fun a m => ?_, h.hs, h.mine, fun f F j a m m' => ?_, h.g⟩
  · cases q : H a with
    | none => exact absurd q (h.at_.live a m)
    | some o => exact keep a o q
  · obtain ⟨f0, F0⟩ := R.fps
    rw [F0.eqj F j rfl (fun _ z => z) fun b mb => by
      cases q : H b with
      | none => exact absurd q (F0.live j mb)
      | some o => exact keep b o q] at m'
    exact h.dis f0 F0 j a m m'
def dNst2 (t u : DL') : DB := fun δ Q => t δ fun xs δ1 => u δ1 fun ys δ2 => Q [xs, ys] δ2
theorem db_two {a b : Expr} {t u : DL'} (h1 : Do X Z a t) (h2 : ∀ Z : Ent, Do X Z b u) (hsa : starEach [a, b] X.env = (false, eval a X.env) :: starEach [b] X.env := by rfl) (hsb : starEach [b] X.env = (false, eval b X.env) :: starEach [] X.env := by rfl) :
    Db X Z (.List [a, b] pos) (dNst2 t u) := by
  have hb : PE X b (fun σ H Q => ∃ Z : Ent, lO X.K Z u σ H Q) := ⟨fun pins s σ H Q I ⟨Z, q⟩ => (h2 Z).run.run pins s σ H Q I q⟩
  refine ⟨pe_imp (pe_lst (pa_cons h1.run (pa_cons hb pa_nil hsb) hsa)) fun σ H Q ⟨Hs, δ, R, q⟩ => ⟨Hs, δ, R, h1.mono _ _ _ (fun xs δ1 q v Hs1 H1 s1 R1 f => ?_) q⟩, fun δ Q Q' hq q => h1.mono _ _ _ (fun _ _ z => (h2 Z).mono _ _ _ (fun _ _ z => hq _ _ z) z) q⟩
  obtain ⟨a1, ws, rfl, f1, f2, f3, h0, hG, Rg⟩ := FrO.guard R1 f
  refine ⟨_, Hs1, δ1, Rg, (h2 Z).mono _ _ _ (fun ys δ2 q v2 Hs2 H2 s2 R2 g => ?_) q⟩
  obtain ⟨g1, g2, g3⟩ := R2.grd a1 _ (List.mem_cons_self ..)
  obtain ⟨B, g⟩ := g
  obtain ⟨gb, ne⟩ := g.ungd R2
  have R3 : Rl X.K Z Hs2 H2 σ δ2 := Rl.unguard0 R2
  have fa : FrA X.K Z Hs2 H2 σ δ2 (.ref a1) (.ow false xs) [a1] := by
    obtain ⟨A, fa⟩ := FrO.unguard hG h0 R2 (f3.up s2)
    rw [upd_id g1] at fa
    obtain ⟨_, _, e, rfl, _, _⟩ := fa.lst
    cases e
    exact fa
  obtain ⟨a2, ws2, rfl, rfl, k1, k2⟩ := gb.lst
  refine ⟨by show 2 ≤ sizeLine; decide, fun p np => ?_⟩
  have keep : ∀ (b : Addr) (o : HO), H2 b = some o → upd H2 p (.lst [.ref a1, .ref a2]) b = some o := fun b o e => by rw [upd_ne (ne_of_none e np)]; exact e
  have fa' := fa.grow R3 keep
  have gb' := gb.grow R3 keep
  have R4 := R3.allocO (o := .lst [.ref a1, .ref a2]) np
  have n12 : a1 ≠ a2 := fun e => ne (List.mem_singleton.mpr e)
  have np1 : p ≠ a1 := fun e => by rw [e, g1] at np; cases np
  have np2 : p ≠ a2 := fun e => by rw [e, k1] at np; cases np
  refine q (.ref p) Hs2 _ [p, a1, a2] (s1.trans s2) R4 ⟨.nst upd_same (.cons (keep _ _ g1) (f3.up s2) (.cons (keep _ _ k1) k2 .nil)) ?_, fun b m => ?_, fun b m => ?_, fun fp F j b m m' => ?_, fun b o m => ?_⟩
  · simp [np1, np2, n12]
  · rcases List.mem_cons.mp m with rfl | m
    · exact R3.hsn np
    · rcases List.mem_cons.mp m with rfl | m
      · exact fa.hs _ (List.mem_singleton.mpr rfl)
      · exact gb.hs b m
  · rcases List.mem_cons.mp m with rfl | m
    · exact ⟨R3.h0n np, R3.won np⟩
    · rcases List.mem_cons.mp m with rfl | m
      · exact fa.mine _ (List.mem_singleton.mpr rfl)
      · exact gb.mine b m
  · rcases List.mem_cons.mp m with rfl | m
    · exact F.back R3 keep j _ m' np
    · rcases List.mem_cons.mp m with rfl | m
      · exact fa'.dis fp F j _ (List.mem_singleton.mpr rfl) m'
      · exact gb'.dis fp F j b m m'
  · rcases List.mem_cons.mp m with rfl | m
    · exact R3.nog np
    · rcases List.mem_cons.mp m with rfl | m
      · exact fa.g _ o (List.mem_singleton.mpr rfl)
      · exact gb.g b o m
/-- x = [a, b] -/
def dSetB (i : Nat) (t : DB) : DS := fun N δ => t δ fun xss δ' => N.nx (δ'.set i (some (.ob false (.nst xss))))
theorem ds_setB {i : Nat} {x : Str} {e : Expr} {t : DB} {pos' : Pos} (hN : X.N.Nodup) (hi : X.N[i]? = some x) (hx : Loc X.env.scope x) (he : Db X Z e t) (hs : swapsWith e (some (.Name x pos')) pos.line X.env = pure false := by rfl) (hf : X.fn x = true ∨ X.env.scope.names.lookup x = some .local := by first | exact .inl rfl | exact .inr rfl | assumption) :
    Ds X Z (.Assign [.Name x pos'] e pos) (dSetB i t) :=
  ⟨ps_imp (ps_set hN hi hx he.run hs hf) fun D σ H ⟨Hs, δ, N, R, ok, q⟩ => ⟨Hs, δ, R, he.mono _ _ _ (fun d δ' q v Hs' H' A s R' f => ok.nx _ _ Hs' H' s (R'.setA f rfl) q) q⟩⟩
/-- x = x + [a, b] -/
def dAddB (i : Nat) (t : DB) : DS := fun N δ => match δ[i]? with
  | some (some (.ob false (.nst xss))) => t δ fun yss δ' => δ'[i]? = some (some (.ob false (.nst xss))) ∧ xss.length + yss.length ≤ sizeLine ∧ N.nx (δ'.set i (some (.ob false (.nst (xss ++ yss)))))
  | _ => False
theorem ds_addB {i : Nat} {x : Str} {e : Expr} {t : DB} {pos' p1 p2 : Pos} (hN : X.N.Nodup) (hi : X.N[i]? = some x) (hx : Loc X.env.scope x) (he : Db X Z e t) (hv : Vis X.env.scope x := by first | exact Or.inl rfl | exact Or.inr (Or.inl rfl) | exact Or.inr (Or.inr rfl))
    (hd : (x == ("__debug__" : Str)) = false := by decide) (hcd : (x == ("__classdict__" : Str)) = false := by decide) (hs : swapsWith (.BinOp (.Name x p1) .Add e p2) (some (.Name x pos')) pos.line X.env = pure false := by rfl) (hf : X.fn x = true ∨ X.env.scope.names.lookup x = some .local := by first | exact .inl rfl | exact .inr rfl | assumption) :
    Ds X Z (.Assign [.Name x pos'] (.BinOp (.Name x p1) .Add e p2) pos) (dAddB i t) := by
  refine ⟨ps_imp (ps_set hN hi hx (pe_op op_catS (pe_var hi hv hd hcd) he.run) hs hf) fun D σ H ⟨Hs, δ, N, R, ok, q⟩ => ?_⟩
  unfold dAddB at q
  split at q
  · rename_i xss e0
    obtain ⟨f, F⟩ := R.fps
    obtain ⟨v0, hv0, _⟩ := F.at_ i _ e0 rfl
    refine ⟨v0, hv0, Hs, δ, R, he.mono _ _ _ (fun yss δ' q v2 Hs' H' A2 s R' f2 => ?_) q⟩
    obtain ⟨q1, q2, q3⟩ := q
    obtain ⟨v1, B1, hv1, Re, f1⟩ := R'.moveA q1 rfl rfl
    rw [hv0] at hv1
    cases hv1
    obtain ⟨f0, F0⟩ := R'.fps
    have e1 : f0 i = B1 := by
      obtain ⟨u, u1, u2⟩ := F0.at_ i _ q1 rfl
      rw [hv0] at u1
      cases u1
      exact u2.uniq f1.at_
    have d12 : ∀ b ∈ A2, b ∉ B1 := fun b m m' => f2.dis f0 F0 i b m (by rw [e1]; exact m')
    cases h1 : f1.at_ with
    | @nst a1 _ vs1 _ A1 k1 k2 k3 =>
      cases h2 : f2.at_ with
      | @nst a2 _ vs2 _ A3 l1 l2 l3 =>
        refine ⟨a1, a2, vs1, vs2, rfl, rfl, SqL.of k1, SqL.of l1, by rw [k2.len.1, l2.len.1]; exact q2, fun p np => ?_⟩
        have keep : ∀ (b : Addr) (o : HO), H' b = some o → upd H' p (.lst (vs1 ++ vs2)) b = some o := fun b o e => by rw [upd_ne (ne_of_none e np)]; exact e
        have np1 : p ∉ a1 :: A1 := fun m => f1.at_.live p m np
        have np2 : p ∉ a2 :: A3 := fun m => f2.at_.live p m np
        obtain ⟨n1, n1'⟩ := List.nodup_cons.mp k3
        obtain ⟨n2, n2'⟩ := List.nodup_cons.mp l3
        have kk : ∀ b ∈ A1 ++ A3, b ∈ a1 :: A1 ∨ b ∈ a2 :: A3 := fun b m => (List.mem_append.mp m).elim (fun z => .inl (List.mem_cons_of_mem _ z)) fun z => .inr (List.mem_cons_of_mem _ z)
        have fr : FrA X.K Z Hs' (upd H' p (.lst (vs1 ++ vs2))) σ (δ'.set i none) (.ref p) (.ob false (.nst (xss ++ yss))) (p :: (A1 ++ A3)) := by
          refine ⟨.nst upd_same ((k2.app l2).fr (Same.refl _) fun b m => ?_) ?_, fun b m => ?_, fun b m => ?_, fun fp Fp j b m m' => ?_, fun b o m => ?_⟩
          · rcases kk b m with z | z
            · exact upd_ne fun e => np1 (e ▸ z)
            · exact upd_ne fun e => np2 (e ▸ z)
          · refine List.nodup_cons.mpr ⟨fun m => (kk p m).elim np1 np2, List.nodup_append.mpr ⟨n1', n2', fun b m c m' e => ?_⟩⟩
            subst e
            exact d12 b (List.mem_cons_of_mem _ m') (List.mem_cons_of_mem _ m)
          · rcases List.mem_cons.mp m with rfl | m
            · exact R'.hsn np
            · exact (kk b m).elim (f1.hs b) (f2.hs b)
          · rcases List.mem_cons.mp m with rfl | m
            · exact ⟨R'.h0n np, R'.won np⟩
            · exact (kk b m).elim (f1.mine b) (f2.mine b)
          · rcases List.mem_cons.mp m with rfl | m
            · exact Fp.back Re keep j _ m' np
            · by_cases e : j = i
              · subst e
                rw [Fp.emp j fun t z => by
                  rcases get_set z with ⟨_, z'⟩ | ⟨ne, _⟩
                  · cases z'
                  · exact absurd rfl ne] at m'
                exact nomatch m'
              · rw [F0.eqj Fp j (by rw [List.getElem?_set_ne (fun z => e z.symm)]) (fun _ z => z) fun c mc => by
                  cases w : H' c with
                  | none => exact absurd w (F0.live j mc)
                  | some o => exact keep c o w] at m'
                rcases kk b m with z | z
                · exact F0.dis i j b (fun w => e w.symm) (by rw [e1]; exact z) m'
                · exact f2.dis f0 F0 j b z m'
          · rcases List.mem_cons.mp m with rfl | m
            · exact R'.nog np
            · exact (kk b m).elim (fun z => f1.g b o z) (fun z => f2.g b o z)
        have R5 := (Re.allocO (o := .lst (vs1 ++ vs2)) np).setA (i := i) fr rfl
        rw [List.set_set] at R5
        exact ok.nx _ _ Hs' _ s R5 q3
  · exact q.elim
/-! ### for x in a list of lists: x.append(c); x.reverse() -/
def dForN (i j : Nat) (c : PyData) : DS := fun N δ => match δ[i]? with
  | some (some (.ob p (.nst xss))) => j < δ.length ∧ (∀ xs ∈ xss, xs.length < sizeLine) ∧ N.nx ((δ.set i (some (.ob p (.nst (xss.map fun xs => (xs ++ [c]).reverse))))).set j none)
  | _ => False
theorem ds_forN {i j : Nat} {c : PyData} {cv : V} {tgt it : Expr} {body : List Stmt} (hp : PassesOwn (model X.prog X.w) X.A X.env X.xe) (hc : X.calm = true) (hij : i ≠ j) (hcv : ∀ H, Dp X.K H cv c) (hi : PE X it (tVar i)) (hg : PG X tgt (gName j))
    (hb : PSs X body (fun D σ H => ∃ b ws, σ[j]? = some (some (.ref b)) ∧ H b = some (.lst ws) ∧ ws.length < sizeLine ∧ D.nx σ (upd H b (.lst (ws ++ [cv]).reverse))))
    (hs : ∀ x, foldedSetIterable it X.env x = pure x := by intro _; rfl) : Ds X Z (.For tgt it body [] pos) (dForN i j c) := by
  refine ⟨ps_imp (ps_for hp hc (pi_list hi) hg hb hs) fun D σ H ⟨Hs, δ, N, R, ok, q⟩ => ?_⟩
  unfold dForN at q
  split at q
  · rename_i p xss e0
    obtain ⟨f, F⟩ := R.fps
    obtain ⟨v, hv, hat⟩ := F.at_ i _ e0 rfl
    generalize hB : f i = B at hat
    cases hat with
    | @nst a _ vs _ A h1 h2 h3 =>
      obtain ⟨q0, q1, q2⟩ := q
      obtain ⟨na, nd⟩ := List.nodup_cons.mp h3
      have hl := h2.len
      refine ⟨.ref a, hv, a, rfl, ⟨vs, SqL.of h1⟩, ?_⟩
      refine ⟨fun n m σ' H' => m = xss.length - n ∧ n ≤ xss.length ∧ (σ' = σ ∨ ∃ w, σ' = σ.set j (some w)) ∧ (∀ b, b ∉ A → H' b = H b) ∧ ∃ yss, LsAt X.K Hs H' vs yss A ∧ yss.length = xss.length ∧ (∀ k, k < n → yss[k]? = (xss[k]?).map fun xs => (xs ++ [c]).reverse) ∧ (∀ k, n ≤ k → yss[k]? = xss[k]?),
        ⟨_, rfl, Nat.zero_le _, .inl rfl, fun _ _ => rfl, xss, h2, rfl, fun k z => absurd z (Nat.not_lt_zero _), fun k _ => rfl⟩, ?_⟩
      rintro n m σ' H' ⟨rfl, hn, hσ, hH, yss, l1, l2, l3, l4⟩
      have h1' : H' a = some (.lst vs) := (hH a na).trans h1
      have hσl : σ'.length = δ.length := by
        rcases hσ with rfl | ⟨w, rfl⟩
        · exact R.len
        · rw [List.length_set]; exact R.len
      by_cases hlt : n < xss.length
      · obtain ⟨xs, e⟩ : ∃ xs, xss[n]? = some xs := ⟨_, List.getElem?_eq_getElem hlt⟩
        have e' : yss[n]? = some xs := (l4 n (Nat.le_refl _)).trans e
        obtain ⟨b, ws, g1, g2, g3, g4⟩ := l1.get n xs e'
        refine .inr ⟨⟨vs, _, SqL.of h1', g1⟩, fun σ3 H3 => n + 1 ≤ xss.length ∧ (σ3 = σ ∨ ∃ w, σ3 = σ.set j (some w)) ∧ (∀ b, b ∉ A → H3 b = H b) ∧ ∃ yss, LsAt X.K Hs H3 vs yss A ∧ yss.length = xss.length ∧ (∀ k, k < n + 1 → yss[k]? = (xss[k]?).map fun xs => (xs ++ [c]).reverse) ∧ (∀ k, n + 1 ≤ k → yss[k]? = xss[k]?), fun σ3 H3 z => ⟨xss.length - (n + 1), by omega, rfl, z⟩, fun x H3 y => ?_⟩
        obtain ⟨rfl, y⟩ := y
        have ex := y vs (SqL.of h1')
        rw [g1] at ex
        cases ex
        refine ⟨b, ws, List.getElem?_set_self (by rw [hσl]; exact q0), g3, by rw [g4.len]; exact q1 xs (List.mem_of_getElem? e), hlt, .inr ⟨.ref b, ?_⟩, fun b' n' => ?_, yss.set n ((xs ++ [c]).reverse), l1.set nd n b g2 _ _ (dpa_rev (g4.app (.cons (hcv _) .nil))), by rw [List.length_set]; exact l2, fun k hk => ?_, fun k hk => ?_⟩
        · rcases hσ with rfl | ⟨w, rfl⟩
          · rfl
          · rw [List.set_set]
        · have ne : b' ≠ b := fun z => n' (by rw [z]; exact List.mem_of_getElem? g2)
          rw [upd_ne ne]
          exact hH b' n'
        · by_cases z : k = n
          · subst z
            rw [List.getElem?_set_self (by omega), e]
            rfl
          · rw [List.getElem?_set_ne (fun w => z w.symm)]
            exact l3 k (by omega)
        · rw [List.getElem?_set_ne (by omega)]
          exact l4 k (by omega)
      · have en : n = xss.length := by omega
        subst en
        have ey : yss = xss.map fun xs => (xs ++ [c]).reverse := by
          refine List.ext_getElem? fun k => ?_
          rw [List.getElem?_map]
          by_cases z : k < xss.length
          · exact l3 k z
          · rw [List.getElem?_eq_none (by omega), List.getElem?_eq_none (by omega)]
            rfl
        rw [ey] at l1
        have hAs : ∀ b ∈ a :: A, Hs b = none := fun b m => F.hs i b (by rw [hB]; exact m)
        have fi : ∀ f', Fps X.K Z Hs H σ δ f' → f' i = a :: A := fun f' F' => by rw [← hB]; exact F'.same F i
        have R2 : Rl X.K Z Hs H' σ (δ.set i (some (.ob p (.nst (xss.map fun xs => (xs ++ [c]).reverse))))) := by
          refine R.chg (A := a :: A) (s := .ob p (.nst xss)) e0 rfl hv rfl (Same.refl _) (fun b x z => ?_) (fun f' F' b o nb z => ?_) (fun b z => ?_) (fun b z => .inl z) (.nst h1' l1 h3) (fun f' F' b m => .inl (by rw [fi f' F']; exact m)) hAs
          · have nb : b ∉ A := fun m => by rw [hAs b (List.mem_cons_of_mem _ m)] at z; cases z
            rw [hH b nb]
            exact R.sub b x z
          · rw [fi f' F'] at nb
            rw [hH b fun m => nb (List.mem_cons_of_mem _ m)]
            exact z
          · by_cases nb : b ∈ A
            · exact l1.live b nb
            · rw [hH b nb]; exact z
        have R3 := R2.erase j
        refine .inl ⟨⟨vs, SqL.of h1', by omega⟩, ok.nx σ' _ Hs H' (Same.refl _) ?_ q2⟩
        rcases hσ with rfl | ⟨w, rfl⟩
        · exact R3
        · refine R3.junk fun s z => ?_
          rcases get_set z with ⟨_, z'⟩ | ⟨ne, _⟩
          · cases z'
          · exact ne rfl
  · exact q.elim
theorem pss_apprev {j : Nat} {x : Str} {p1 a1 c1 p2 a2 c2 q1 q2 : Pos} {ce : Expr} {cv : V} (hce : PE X ce (tC cv)) (hN : X.N[j]? = some x) (hv : Vis X.env.scope x := by first | exact Or.inl rfl | exact Or.inr (Or.inl rfl) | exact Or.inr (Or.inr rfl))
    (hd : (x == ("__debug__" : Str)) = false := by decide) (hcd : (x == ("__classdict__" : Str)) = false := by decide)
    (hbase : attributeBase (.Name x p1) "append" X.env (eval (.Name x p1) X.env) = eval (.Name x p1) X.env := by rfl)
    (hfew : ((backTo c1 (starEach [ce] X.env)).all (fun x => !x.1) && (backToKw c1 (keywordEach [] X.env)).all (fun x => x.1.isSome)
      && decide (([ce] : List Expr).length + ([] : List Keyword).length + (if ([] : List Keyword).isEmpty then 0 else 1) < 30)) = true := by rfl)
    (hline : (a1.endLine == c1.line) = true := by rfl) (hs : starEach [ce] X.env = (false, eval ce X.env) :: starEach [] X.env := by rfl) (hplain : (backTo c1 (starEach [] X.env)).any (·.1) = false := by rfl)
    (hsw : swapsWith (.Call (.Attribute (.Name x p1) "append" a1) [ce] [] c1) none q1.line X.env = pure false := by rfl)
    (hbase2 : attributeBase (.Name x p2) "reverse" X.env (eval (.Name x p2) X.env) = eval (.Name x p2) X.env := by rfl)
    (hline2 : (a2.endLine == c2.line) = true := by rfl) (hsw2 : swapsWith (.Call (.Attribute (.Name x p2) "reverse" a2) [] [] c2) none q2.line X.env = pure false := by rfl) :
    PSs X [.Expr (.Call (.Attribute (.Name x p1) "append" a1) [ce] [] c1) q1, .Expr (.Call (.Attribute (.Name x p2) "reverse" a2) [] [] c2) q2] (fun D σ H => ∃ b ws, σ[j]? = some (some (.ref b)) ∧ H b = some (.lst ws) ∧ ws.length < sizeLine ∧ D.nx σ (upd H b (.lst (ws ++ [cv]).reverse))) := by
  refine pss_imp (pss_cons (ps_expr (pe_bm PySem.F.plainAttrs_list PySem.F.slot_list_append PySem.F.type_list_append mt_append (pe_var hN hv hd hcd) (pa_cons hce pa_nil hs) hbase hfew hline hs hplain) hsw)
    (pss_cons (ps_expr (pe_bm0 PySem.F.plainAttrs_list PySem.F.slot_list_reverse PySem.F.type_list_reverse mt_reverse (pe_var hN hv hd hcd) hbase2 hline2) hsw2) pss_nil)) fun D σ H ⟨b, ws, h1, h2, h3, q⟩ => ?_
  refine ⟨.ref b, h1, .inl ⟨rfl, _, SqL.of h2⟩, b, ws, cv, rfl, rfl, h2, h3, ?_⟩
  refine ⟨.ref b, h1, .inl ⟨rfl, _, SqL.of upd_same⟩, b, ws ++ [cv], rfl, rfl, upd_same, ?_⟩
  rw [show upd (upd H b (.lst (ws ++ [cv]))) b (.lst (ws ++ [cv]).reverse) = upd H b (.lst (ws ++ [cv]).reverse) by
    funext z
    by_cases e : z = b
    · subst e; rw [upd_same, upd_same]
    · rw [upd_ne e, upd_ne e, upd_ne e]]
  exact q
end
end DL
namespace DL
open PySem PySem.Spec L2 PyProof.Rows
section
variable {X : Cx} {Z : Ent} {pos : Pos}
class BNMono (t : DB) : Prop where
  m : ∀ (δ : DSt) (Q Q' : List (List PyData) → DSt → Prop), (∀ d δ', Q d δ' → Q' d δ') → t δ Q → t δ Q'
instance {t u : DL'} [LMono t] [LMono u] : BNMono (dNst2 t u) := ⟨fun δ Q Q' hq q => LMono.m (t := t) _ _ _ (fun _ _ z => LMono.m (t := u) _ _ _ (fun _ _ z => hq _ _ z) z) q⟩
instance {i : Nat} {t : DB} [BNMono t] : SMono (dSetB i t) := ⟨fun N N' δ le q => BNMono.m (t := t) _ _ _ (fun _ _ z => le.nx _ z) q⟩
instance {i : Nat} {t : DB} [BNMono t] : SMono (dAddB i t) := ⟨fun N N' δ le q => by
  unfold dAddB at q ⊢
  split at q
  · exact BNMono.m (t := t) _ _ _ (fun _ _ z => ⟨z.1, z.2.1, le.nx _ z.2.2⟩) q
  · exact q.elim⟩
instance {i j : Nat} {c : PyData} : SMono (dForN i j c) := ⟨fun N N' δ le q => by
  unfold dForN at q ⊢
  split at q
  · exact ⟨q.1, q.2.1, le.nx _ q.2.2⟩
  · exact q.elim⟩
end
section
variable {K : PySem.W.Frag} {x qual : Str} {params : Arguments} {body : List Stmt} {scope : Scope} {kws : List (Str × V)} {f : Addr} {fd : FuncData} {ps : List Str}
/-- some keywords are given, others lack -/
theorem kbM (F : FunD K x qual params body scope [] kws f fd) (n : Nat) (ks : List Str) (ms : List (Str × V)) (idx : List Nat) (hk : kws ≠ []) (hms : ∀ q ∈ ms, q ∈ kws)
    (h : ∀ (D : Addr) (doc pm : Value) (an : Option Addr) (cdv ct : Value) (us mv ws : List Value), us.length = n → mv.length = ms.length → ws.length = ks.length →
      KwChain D ((ms.map (·.1)).zip mv) (bindArgs (PySem.W.fnOf x qual params body scope .none (.ref D) doc pm an cdv ct) ⟨us, ks.zip ws⟩) (ps.zip (us ++ idx.map fun i => (mv ++ ws).getD i .none))) :
    ∃ mv : List Value, KBn K fd ps n ks (fun us ws => us ++ idx.map fun i => (mv ++ ws).getD i .none) (fun vs zs => vs ++ idx.map fun i => (ms.map (·.2) ++ zs).getD i .non) := by
  obtain ⟨oc, od, dV, kV, doc, pm, an, cdv, ct, osl, rfl, lk, hcd, hD, hK⟩ := F.ex
  rcases hD with ⟨_, rfl⟩ | ⟨e, _⟩
  · rcases hK with e | ⟨D, rfl, hq⟩
    · exact absurd e hk
    · obtain ⟨mv, hl, rk, hks⟩ := kwd_vals (ms := ms) fun q hm => hq q (hms q hm)
      refine ⟨mv, ⟨fun s us ws X l1 l2 => BindsTo.of_looks fun M => KwChain.looks X hks (h D doc pm an cdv ct us mv ws l1 hl l2), fun r1 r2 => r1.append (vals_perm (rk.append r2) idx)⟩⟩
  · exact absurd rfl e
end
end DL
namespace DL
open PySem PySem.Spec L2 PyProof.Rows
section
variable {X : Cx} {Z : Ent} {pos : Pos}
/-- a + b of two lists: a new list of one's own -/
def dCat (ta tb : DE) : DL' := fun δ Q => ta δ fun d δ1 => tb δ1 fun e δ2 => match d, e with
  | .list xs, .list ys => xs.length + ys.length ≤ sizeLine ∧ Q (xs ++ ys) δ2
  | _, _ => False
instance {ta tb : DE} [EMono ta] [EMono tb] : LMono (dCat ta tb) := ⟨fun δ Q Q' hq q => EMono.m (t := ta) _ _ _ (fun d δ1 z => EMono.m (t := tb) _ _ _ (fun e δ2 z => by
  split at z
  · exact ⟨z.1, hq _ _ z.2⟩
  · exact z.elim) z) q⟩
theorem do_add {a b : Expr} {ta tb : DE} (ha : De X Z a ta) (hb : De X Z b tb) : Do X Z (.BinOp a .Add b pos) (dCat ta tb) := by
  refine ⟨pe_imp (pe_op op_catS ha.run hb.run) fun σ H Q ⟨Hs, δ, R, q⟩ => ⟨Hs, δ, R, ha.mono _ _ _ (fun d δ1 q x Hs1 H1 s1 R1 dx => ⟨Hs1, δ1, R1, hb.mono _ _ _ (fun e δ2 q y Hs2 H2 s2 R2 dy => ?_) q⟩) q⟩, fun δ Q Q' hq q => ha.mono _ _ _ (fun d δ1 z => hb.mono _ _ _ (fun e δ2 z => by
    split at z
    · exact ⟨z.1, hq _ _ z.2⟩
    · exact z.elim) z) q⟩
  split at q
  · cases dx with
    | lst h1 a1 =>
      cases dy with
      | lst h2 a2 =>
        refine ⟨_, _, _, _, rfl, rfl, R2.sub.seq (s2.seq h1), R2.sub.seq h2, by rw [a1.len, a2.len]; exact q.1, fun p np => ?_⟩
        exact q.2 _ Hs2 _ (s1.trans s2) (R2.allocO np) (FrO.new R2 np ((a1.up s2).app a2))
  · exact q.elim
end
end DL

namespace Lw
open PySem PySem.Spec L2 DL DM
-- simp: num_negd, num_int, str_beq, String.reduceBEq, optD_some, sh_str
theorem end54 {Q : Res → Prop} (hq : Q (.d (.bool true))) : f_jcaps [PyData.list [], numD ((2 : Int) : Rat), numD ((1 : Int) : Rat)] fun r => SeqAt.shaped (asD r) = true ∧ SeqAt.shaped (PyData.list [PyData.int 0]) = true ∧ Q (Res.d (PyData.bool ((asD r).eqv (PyData.list [PyData.int 0])))) :=
  ⟨[], _, _, rfl, ⟨fun t m => (nomatch m), by decide, ⟨by decide, Bd.int (by decide) (by decide)⟩, by decide, Bd.int (by decide) (by decide)⟩, rfl, rfl, hq⟩

local macro_rules | `(tactic| walk_at "dl") => `(tactic| simp only [iZp3, iZp4, dTryAs, dCallX, dIsE, dRaise, suEnds, unxn, noxn_sh, noxn_ow, noxn_none, noxn_xn, dAsgS, min3_i, dRevA, revA_t, revA_l, dRepE, dListR, dSetSl, iRgD, List.getD_cons_zero, List.getD_cons_succ, star_t, star_l, dLend, dLendT, dLendO, lent, unown_sh, unown_ow, unown_none, dMut, dParO, maxL_l, dCallNO, isT_int_dict, isT_bool_dict, isT_tuple_dict, isT_str_dict, isT_list_dict, isB_bb, notB_bb, adB_t, dRep, dSl, dNoP, dPart, part_int, slD_t, slD_l, dRev, revD_t, inn_t, inn_l, adA_i, adA_s, adA_l, adA_t, dListO, lstO_l, lstO_t, lstO_n, dI_one, dI_add, dI_sub, dI_mul, dI_div, decide_true, decide_false, iZp, iEn, zipD, enumD, dCallN, dLc, dLcL, iLst, iTpl, dwipe, dYes, DL.rAll, DL.rAny, bools, Option.map_some, List.all_cons, List.all_nil, List.any_cons, List.any_nil, id_eq, dSeq, dSet, dSetO, dIfS, dRet, dRetO, dCall, dCallO, dCallB, dCB, dOp, dVar, dMove, dC, dTup, dLst, dCons, dNil, dShare, dTru, dTst, dChain, dAnd, dOr, dNot, dAndV, dOrV, dNotV, dNeg, dIf, dIxO, dSetIx, dApp, dAug, dPar, dAsg, dDrop, dNx, dNever, dBk, dCt, dRtN, gNm, gTp, gsCons, gsNil, dIsi, dBits, rEqq, rNeq, rIsN, rNotN, rAbs, DL.rMax, DL.rMin, atB, endsP, endsB, startD, startB, List.map_cons, List.map_nil, List.length_cons, List.length_nil, List.append_nil, List.cons_append, List.nil_append, List.reduceReplicate, List.replicate_zero, Nat.reduceAdd, Nat.reduceSub, List.getElem?_cons_zero, List.getElem?_cons_succ, List.set_cons_zero, List.set_cons_succ, exists_eq_left, exists_eq_left', exists_eq_right, Option.some.injEq, true_and, and_true, PyData.int.injEq, PyData.bool.injEq, PyData.tuple.injEq, PyData.list.injEq, Sl.sh.injEq, exists_eq', atI_0, atI_1, atI_2, atI_3, atI_4, ixN_0, ixN_1, ixN_2, ap_plus, ap_minus, ap_times, ap_over, ap_opp, ap_iswhole, ap_is, ap_shared, ap_ratio, ap_below, ap_whole, ap_side, ap_root, ap_less, ap_added, ap_scaled, ap_dot, ap_cross, ap_turned, ap_left, ap_dist, ap_isplace, ap_heading, ap_contrary, ap_behind, ap_sooner, ap_isnum, ap_whole1, ap_isplD, ap_far, ap_isstep, ap_iscut, ap_low2, ap_along, ap_turn3, ap_gear, List.cons.injEq, and_assoc, exists_and_left, numD_inj,
  rII_int, rIx_tup, rIx_list, rIx_num0, rIx_num1, asD_d, asD_o, tru_none, tru_bool, tru_int, tru_list, tru_tuple, tru_num, isN_none, isN_bool, isN_int, isN_str, isN_list, isN_tuple, isN_num, rLen_list, rLen_tuple, rLen_str, rLen_num, rInt1_int, rInt1_bool, rTuple_list, rTuple_tuple, sh_none, sh_bool, sh_int, sh_num, sh_nn, eqv_nn, eqv_bb, eqv_ii, eqv_ss, eqv_tt, eqv_ll, eqvAll_nil, eqvAll_cons, eqv_num, eqv_num_none, eqv_none_num, isT_int_NoneType, isT_int_bool, isT_int_int, isT_int_str, isT_int_list, isT_int_tuple, isT_int_num, isT_bool_NoneType, isT_bool_bool, isT_bool_int, isT_bool_str, isT_bool_list, isT_bool_tuple, isT_bool_num, isT_tuple_NoneType, isT_tuple_bool, isT_tuple_int, isT_tuple_str, isT_tuple_list, isT_tuple_tuple, isT_tuple_num, isT_str_NoneType, isT_str_bool, isT_str_int, isT_str_str, isT_str_list, isT_str_tuple, isT_str_num, isT_list_NoneType, isT_list_bool, isT_list_int, isT_list_str, isT_list_list, isT_list_tuple, isT_list_num, Bool.not_true, Bool.not_false, Bool.and_true, Bool.true_and, Bool.false_and, Bool.and_false, sizeLine_eq, Nat.reduceLeDiff, Nat.reduceLT, num_negd, num_int, str_beq, String.reduceBEq, optD_some, sh_str])
local macro_rules | `(tactic| walk_at "bd") => `(tactic| (apply Bd.mono; (repeat' (first | assumption | with_reducible apply Bd.add | with_reducible apply Bd.sub | with_reducible apply Bd.mul | with_reducible apply Bd.neg | with_reducible apply Bd.div)); decide))
local macro_rules | `(tactic| walk_at "sd") => `(tactic| ((repeat' (with_reducible refine And.intro ?_ ?_)) <;> try (first | assumption | exact mul_nd (by assumption) (by assumption) (by decide) | exact mul_nn (by assumption) (by assumption) (by decide) | exact mul_dd (by assumption) (by assumption) (by decide) | exact mul_dn (by assumption) (by assumption) (by decide) | exact den_mul_ne _ _ | exact dd_lt (by assumption) (by assumption) (by decide) | exact dn_lt (by assumption) (by assumption) (by decide) | exact Int.mul_ne_zero (den_ne _) (num_ne (by assumption)) | exact mul64 (by omega) (by omega) (by omega) (by omega) | exact div64 (by omega) (by omega) (by omega) | (walk_at "bd"))))


def topS (i : Nat) : Stmt := PySem.Challenge.pw_toolroad_k54_joint_caps.main.body.getD i (.Pass ⟨0, 0, 0, 0⟩)
abbrev s_shared : Stmt := topS 8
theorem sc_shared : FnScope ["one", "other"] ["one", "other"] (defScope s_shared) := ⟨rfl, rfl, rfl, by decide +kernel, rfl, by decide +kernel, by decide +kernel⟩
abbrev s_opposite : Stmt := topS 11
theorem sc_opposite : FnScope ["u"] ["u"] (defScope s_opposite) := ⟨rfl, rfl, rfl, by decide +kernel, rfl, by decide +kernel, by decide +kernel⟩
abbrev s_is_below : Stmt := topS 15
theorem sc_is_below : FnScope ["u", "v"] ["u", "v"] (defScope s_is_below) := ⟨rfl, rfl, rfl, by decide +kernel, rfl, by decide +kernel, by decide +kernel⟩
abbrev s_side_of : Stmt := topS 16
theorem sc_side_of : FnScope ["square", "side", "closer"] ["square"] (defScope s_side_of) := ⟨rfl, rfl, rfl, by decide +kernel, rfl, by decide +kernel, by decide +kernel⟩
abbrev s__law_bag : Stmt := topS 39
theorem sc__law_bag : FnScope ["_law_script", "_law_at", "_law_cell", "_law_far"] ["_law_script", "_law_at"] (defScope s__law_bag) := ⟨rfl, rfl, rfl, by decide +kernel, rfl, by decide +kernel, by decide +kernel⟩
abbrev s__law_take : Stmt := topS 40
theorem sc__law_take : FnScope ["_law_bag_here", "_law_many", "_law_primes", "_law_turn", "_law_base", "_law_mixed", "_law_prime", "_law_digit"] ["_law_bag_here", "_law_many"] (defScope s__law_take) := ⟨rfl, rfl, rfl, by decide +kernel, rfl, by decide +kernel, by decide +kernel⟩
abbrev s__law_low : Stmt := topS 41
theorem sc__law_low : FnScope ["_law_top", "_law_bottom", "_law_one", "_law_other"] ["_law_top", "_law_bottom"] (defScope s__law_low) := ⟨rfl, rfl, rfl, by decide +kernel, rfl, by decide +kernel, by decide +kernel⟩
abbrev s__law_gear : Stmt := topS 49
theorem sc__law_gear : FnScope ["_law_most", "_law_part", "_law_bound", "_law_high", "_law_low_here", "_law_k"] ["_law_most", "_law_part", "_law_bound"] (defScope s__law_gear) := ⟨rfl, rfl, rfl, by decide +kernel, rfl, by decide +kernel, by decide +kernel⟩
abbrev s__law_are_gears : Stmt := topS 57
theorem sc__law_are_gears : FnScope ["_law_told", "_law_due", "_law_one"] ["_law_told", "_law_due"] (defScope s__law_are_gears) := ⟨rfl, rfl, rfl, by decide +kernel, rfl, by decide +kernel, by decide +kernel⟩
abbrev s_ratio : Stmt := topS 9
theorem sc_ratio : FnScope ["top", "bottom", "both"] ["top", "bottom"] (defScope s_ratio) := ⟨rfl, rfl, rfl, by decide +kernel, rfl, by decide +kernel, by decide +kernel⟩
abbrev s_root : Stmt := topS 17
theorem sc_root : FnScope ["u", "top", "bottom"] ["u"] (defScope s_root) := ⟨rfl, rfl, rfl, by decide +kernel, rfl, by decide +kernel, by decide +kernel⟩
abbrev s_left_of : Stmt := topS 22
theorem sc_left_of : FnScope ["place"] ["place"] (defScope s_left_of) := ⟨rfl, rfl, rfl, by decide +kernel, rfl, by decide +kernel, by decide +kernel⟩
abbrev s__law_plus : Stmt := topS 42
theorem sc__law_plus : FnScope ["_law_u", "_law_v"] ["_law_u", "_law_v"] (defScope s__law_plus) := ⟨rfl, rfl, rfl, by decide +kernel, rfl, by decide +kernel, by decide +kernel⟩
abbrev s__law_times : Stmt := topS 43
theorem sc__law_times : FnScope ["_law_u", "_law_v"] ["_law_u", "_law_v"] (defScope s__law_times) := ⟨rfl, rfl, rfl, by decide +kernel, rfl, by decide +kernel, by decide +kernel⟩
abbrev s__law_heading : Stmt := topS 44
theorem sc__law_heading : FnScope ["_law_bag_here", "_law_many", "_law_pairs", "_law_both", "_law_p", "_law_q"] ["_law_bag_here", "_law_many"] (defScope s__law_heading) := ⟨rfl, rfl, rfl, by decide +kernel, rfl, by decide +kernel, by decide +kernel⟩
abbrev s__law_small : Stmt := topS 52
theorem sc__law_small : FnScope ["_law_bag_here", "_law_wide"] ["_law_bag_here"] (defScope s__law_small) := ⟨rfl, rfl, rfl, by decide +kernel, rfl, by decide +kernel, by decide +kernel⟩
abbrev s__law_just : Stmt := topS 53
theorem sc__law_just : FnScope ["_law_bag_here", "_law_number", "_law_by"] ["_law_bag_here", "_law_number"] (defScope s__law_just) := ⟨rfl, rfl, rfl, by decide +kernel, rfl, by decide +kernel, by decide +kernel⟩
abbrev s__law_sizes : Stmt := topS 56
theorem sc__law_sizes : FnScope ["_law_bag_here"] ["_law_bag_here"] (defScope s__law_sizes) := ⟨rfl, rfl, rfl, by decide +kernel, rfl, by decide +kernel, by decide +kernel⟩
abbrev s_plus : Stmt := topS 10
theorem sc_plus : FnScope ["u", "v"] ["u", "v"] (defScope s_plus) := ⟨rfl, rfl, rfl, by decide +kernel, rfl, by decide +kernel, by decide +kernel⟩
abbrev s_times : Stmt := topS 13
theorem sc_times : FnScope ["u", "v"] ["u", "v"] (defScope s_times) := ⟨rfl, rfl, rfl, by decide +kernel, rfl, by decide +kernel, by decide +kernel⟩
abbrev s_over : Stmt := topS 14
theorem sc_over : FnScope ["u", "v"] ["u", "v"] (defScope s_over) := ⟨rfl, rfl, rfl, by decide +kernel, rfl, by decide +kernel, by decide +kernel⟩
abbrev s__law_turned : Stmt := topS 45
theorem sc__law_turned : FnScope ["_law_place", "_law_by", "_law_way_here", "_law_less", "_law_c", "_law_s"] ["_law_place", "_law_by", "_law_way_here"] (defScope s__law_turned) := ⟨rfl, rfl, rfl, by decide +kernel, rfl, by decide +kernel, by decide +kernel⟩
abbrev s__law_along : Stmt := topS 46
theorem sc__law_along : FnScope ["_law_here", "_law_u", "_law_size"] ["_law_here", "_law_u", "_law_size"] (defScope s__law_along) := ⟨rfl, rfl, rfl, by decide +kernel, rfl, by decide +kernel, by decide +kernel⟩
abbrev s__law_entry_cap : Stmt := topS 50
theorem sc__law_entry_cap : FnScope ["_law_entry", "_law_fact", "_law_drag"] ["_law_entry", "_law_fact", "_law_drag"] (defScope s__law_entry_cap) := ⟨rfl, rfl, rfl, by decide +kernel, rfl, by decide +kernel, by decide +kernel⟩
abbrev s__law_pull : Stmt := topS 54
theorem sc__law_pull : FnScope ["_law_bag_here", "_law_entries", "_law_facts", "_law_radii", "_law_radius", "_law_gear_here", "_law_entry", "_law_fact"] ["_law_bag_here", "_law_entries", "_law_facts"] (defScope s__law_pull) := ⟨rfl, rfl, rfl, by decide +kernel, rfl, by decide +kernel, by decide +kernel⟩
abbrev s__law_jolt : Stmt := topS 55
theorem sc__law_jolt : FnScope ["_law_bag_here", "_law_gear_here"] ["_law_bag_here"] (defScope s__law_jolt) := ⟨rfl, rfl, rfl, by decide +kernel, rfl, by decide +kernel, by decide +kernel⟩
abbrev s_minus : Stmt := topS 12
theorem sc_minus : FnScope ["u", "v"] ["u", "v"] (defScope s_minus) := ⟨rfl, rfl, rfl, by decide +kernel, rfl, by decide +kernel, by decide +kernel⟩
abbrev s_scaled : Stmt := topS 20
theorem sc_scaled : FnScope ["place", "u"] ["place", "u"] (defScope s_scaled) := ⟨rfl, rfl, rfl, by decide +kernel, rfl, by decide +kernel, by decide +kernel⟩
abbrev s_dot : Stmt := topS 21
theorem sc_dot : FnScope ["one", "other"] ["one", "other"] (defScope s_dot) := ⟨rfl, rfl, rfl, by decide +kernel, rfl, by decide +kernel, by decide +kernel⟩
abbrev s_greatest_gear : Stmt := topS 33
theorem sc_greatest_gear : FnScope ["most", "part", "bound", "gear"] ["most", "part", "bound"] (defScope s_greatest_gear) := ⟨rfl, rfl, rfl, by decide +kernel, rfl, by decide +kernel, by decide +kernel⟩
abbrev s__law_step : Stmt := topS 47
theorem sc__law_step : FnScope ["_law_bag_here", "_law_here", "_law_along_here", "_law_wide", "_law_kind", "_law_size", "_law_u", "_law_spoke", "_law_centre", "_law_there", "_law_side", "_law_way_here", "_law_by"] ["_law_bag_here", "_law_here", "_law_along_here", "_law_wide"] (defScope s__law_step) := ⟨rfl, rfl, rfl, by decide +kernel, rfl, by decide +kernel, by decide +kernel⟩
abbrev s__law_joint_caps : Stmt := topS 51
theorem sc__law_joint_caps : FnScope ["_law_entries", "_law_facts", "_law_drag", "_law_jerk", "_law_caps", "_law_found", "_law_k", "_law_cap", "_law_both", "_law_part", "_law_u", "_law_v", "_law_entry", "_law_fact"] ["_law_entries", "_law_facts", "_law_drag", "_law_jerk"] (defScope s__law_joint_caps) := ⟨rfl, rfl, rfl, by decide +kernel, rfl, by decide +kernel, by decide +kernel⟩
abbrev s_lessened : Stmt := topS 19
theorem sc_lessened : FnScope ["one", "other"] ["one", "other"] (defScope s_lessened) := ⟨rfl, rfl, rfl, by decide +kernel, rfl, by decide +kernel, by decide +kernel⟩
abbrev s__law_way : Stmt := topS 48
theorem sc__law_way : FnScope ["_law_bag_here", "_law_most", "_law_wide", "_law_here", "_law_along_here", "_law_k", "_law_entries", "_law_facts", "_law_step_here", "_law_fact"] ["_law_bag_here", "_law_most", "_law_wide"] (defScope s__law_way) := ⟨rfl, rfl, rfl, by decide +kernel, rfl, by decide +kernel, by decide +kernel⟩
abbrev s_distance : Stmt := topS 23
theorem sc_distance : FnScope ["one", "other", "apart"] ["one", "other"] (defScope s_distance) := ⟨rfl, rfl, rfl, by decide +kernel, rfl, by decide +kernel, by decide +kernel⟩
abbrev s_heading_to : Stmt := topS 24
theorem sc_heading_to : FnScope ["one", "other", "far"] ["one", "other"] (defScope s_heading_to) := ⟨rfl, rfl, rfl, by decide +kernel, rfl, by decide +kernel, by decide +kernel⟩
abbrev s_radius_of : Stmt := topS 26
theorem sc_radius_of : FnScope ["arc"] ["arc"] (defScope s_radius_of) := ⟨rfl, rfl, rfl, by decide +kernel, rfl, by decide +kernel, by decide +kernel⟩
abbrev s_heading_at : Stmt := topS 27
theorem sc_heading_at : FnScope ["arc", "place", "word", "begin", "end", "centre", "way"] ["arc", "place"] (defScope s_heading_at) := ⟨rfl, rfl, rfl, by decide +kernel, rfl, by decide +kernel, by decide +kernel⟩
abbrev s_entry_cap : Stmt := topS 34
theorem sc_entry_cap : FnScope ["entry", "pull", "step", "pace", "rest"] ["entry", "pull"] (defScope s_entry_cap) := ⟨rfl, rfl, rfl, by decide +kernel, rfl, by decide +kernel, by decide +kernel⟩
abbrev s_headings : Stmt := topS 28
theorem sc_headings : FnScope ["cut", "along"] ["cut"] (defScope s_headings) := ⟨rfl, rfl, rfl, by decide +kernel, rfl, by decide +kernel, by decide +kernel⟩
abbrev s_jolt_cap : Stmt := topS 35
theorem sc_jolt_cap : FnScope ["ahead", "behind", "jolt", "come", "goes"] ["ahead", "behind", "jolt"] (defScope s_jolt_cap) := ⟨rfl, rfl, rfl, by decide +kernel, rfl, by decide +kernel, by decide +kernel⟩
abbrev s_joint_cap : Stmt := topS 36
theorem sc_joint_cap : FnScope ["ahead", "behind", "pull", "jolt"] ["ahead", "behind", "pull", "jolt"] (defScope s_joint_cap) := ⟨rfl, rfl, rfl, by decide +kernel, rfl, by decide +kernel, by decide +kernel⟩
abbrev s_joint_caps : Stmt := topS 37
theorem sc_joint_caps : FnScope ["way", "pull", "jolt", "inner", "ahead", "behind"] ["way", "pull", "jolt"] (defScope s_joint_caps) := ⟨rfl, rfl, rfl, by decide +kernel, rfl, by decide +kernel, by decide +kernel⟩
abbrev s_law : Stmt := topS 58
theorem sc_law : FnScope ["_law_script", "_law_at", "_law_bag_here", "_law_dues", "_law_handed", "_law_again", "_law_most", "_law_wide", "_law_entries", "_law_facts", "_law_drag", "_law_jerk", "_law_told", "_law_one", "_law_due"] ["_law_script"] (defScope s_law) := ⟨rfl, rfl, rfl, by decide +kernel, rfl, by decide +kernel, by decide +kernel⟩
structure Tx (K : Fg) (mg : Str → Option Value) where
  fd_shared : FuncData
  F_shared : FunD K "shared" "shared" (defArgs s_shared) (defBody s_shared) (defScope s_shared) [] [] (He.fAd K ("shared", none)) fd_shared
  g_shared : mg "shared" = some (.ref (He.fAd K ("shared", none)))
  fd_opposite : FuncData
  F_opposite : FunD K "opposite" "opposite" (defArgs s_opposite) (defBody s_opposite) (defScope s_opposite) [] [] (He.fAd K ("opposite", none)) fd_opposite
  g_opposite : mg "opposite" = some (.ref (He.fAd K ("opposite", none)))
  fd_is_below : FuncData
  F_is_below : FunD K "is_below" "is_below" (defArgs s_is_below) (defBody s_is_below) (defScope s_is_below) [] [] (He.fAd K ("is_below", none)) fd_is_below
  g_is_below : mg "is_below" = some (.ref (He.fAd K ("is_below", none)))
  fd_side_of : FuncData
  F_side_of : FunD K "side_of" "side_of" (defArgs s_side_of) (defBody s_side_of) (defScope s_side_of) [] [] (He.fAd K ("side_of", none)) fd_side_of
  g_side_of : mg "side_of" = some (.ref (He.fAd K ("side_of", none)))
  fd__law_bag : FuncData
  F__law_bag : FunD K "_law_bag" "_law_bag" (defArgs s__law_bag) (defBody s__law_bag) (defScope s__law_bag) [] [] (He.fAd K ("_law_bag", none)) fd__law_bag
  g__law_bag : mg "_law_bag" = some (.ref (He.fAd K ("_law_bag", none)))
  fd__law_take : FuncData
  F__law_take : FunD K "_law_take" "_law_take" (defArgs s__law_take) (defBody s__law_take) (defScope s__law_take) [] [] (He.fAd K ("_law_take", none)) fd__law_take
  g__law_take : mg "_law_take" = some (.ref (He.fAd K ("_law_take", none)))
  fd__law_low : FuncData
  F__law_low : FunD K "_law_low" "_law_low" (defArgs s__law_low) (defBody s__law_low) (defScope s__law_low) [] [] (He.fAd K ("_law_low", none)) fd__law_low
  g__law_low : mg "_law_low" = some (.ref (He.fAd K ("_law_low", none)))
  fd__law_gear : FuncData
  F__law_gear : FunD K "_law_gear" "_law_gear" (defArgs s__law_gear) (defBody s__law_gear) (defScope s__law_gear) [] [] (He.fAd K ("_law_gear", none)) fd__law_gear
  g__law_gear : mg "_law_gear" = some (.ref (He.fAd K ("_law_gear", none)))
  fd__law_are_gears : FuncData
  F__law_are_gears : FunD K "_law_are_gears" "_law_are_gears" (defArgs s__law_are_gears) (defBody s__law_are_gears) (defScope s__law_are_gears) [] [] (He.fAd K ("_law_are_gears", none)) fd__law_are_gears
  g__law_are_gears : mg "_law_are_gears" = some (.ref (He.fAd K ("_law_are_gears", none)))
  fd_ratio : FuncData
  F_ratio : FunD K "ratio" "ratio" (defArgs s_ratio) (defBody s_ratio) (defScope s_ratio) [.int 1] [] (He.fAd K ("ratio", none)) fd_ratio
  g_ratio : mg "ratio" = some (.ref (He.fAd K ("ratio", none)))
  fd_root : FuncData
  F_root : FunD K "root" "root" (defArgs s_root) (defBody s_root) (defScope s_root) [] [] (He.fAd K ("root", none)) fd_root
  g_root : mg "root" = some (.ref (He.fAd K ("root", none)))
  fd_left_of : FuncData
  F_left_of : FunD K "left_of" "left_of" (defArgs s_left_of) (defBody s_left_of) (defScope s_left_of) [] [] (He.fAd K ("left_of", none)) fd_left_of
  g_left_of : mg "left_of" = some (.ref (He.fAd K ("left_of", none)))
  fd__law_plus : FuncData
  F__law_plus : FunD K "_law_plus" "_law_plus" (defArgs s__law_plus) (defBody s__law_plus) (defScope s__law_plus) [] [] (He.fAd K ("_law_plus", none)) fd__law_plus
  g__law_plus : mg "_law_plus" = some (.ref (He.fAd K ("_law_plus", none)))
  fd__law_times : FuncData
  F__law_times : FunD K "_law_times" "_law_times" (defArgs s__law_times) (defBody s__law_times) (defScope s__law_times) [] [] (He.fAd K ("_law_times", none)) fd__law_times
  g__law_times : mg "_law_times" = some (.ref (He.fAd K ("_law_times", none)))
  fd__law_heading : FuncData
  F__law_heading : FunD K "_law_heading" "_law_heading" (defArgs s__law_heading) (defBody s__law_heading) (defScope s__law_heading) [] [] (He.fAd K ("_law_heading", none)) fd__law_heading
  g__law_heading : mg "_law_heading" = some (.ref (He.fAd K ("_law_heading", none)))
  fd__law_small : FuncData
  F__law_small : FunD K "_law_small" "_law_small" (defArgs s__law_small) (defBody s__law_small) (defScope s__law_small) [] [] (He.fAd K ("_law_small", none)) fd__law_small
  g__law_small : mg "_law_small" = some (.ref (He.fAd K ("_law_small", none)))
  fd__law_just : FuncData
  F__law_just : FunD K "_law_just" "_law_just" (defArgs s__law_just) (defBody s__law_just) (defScope s__law_just) [] [] (He.fAd K ("_law_just", none)) fd__law_just
  g__law_just : mg "_law_just" = some (.ref (He.fAd K ("_law_just", none)))
  fd__law_sizes : FuncData
  F__law_sizes : FunD K "_law_sizes" "_law_sizes" (defArgs s__law_sizes) (defBody s__law_sizes) (defScope s__law_sizes) [] [] (He.fAd K ("_law_sizes", none)) fd__law_sizes
  g__law_sizes : mg "_law_sizes" = some (.ref (He.fAd K ("_law_sizes", none)))
  fd_plus : FuncData
  F_plus : FunD K "plus" "plus" (defArgs s_plus) (defBody s_plus) (defScope s_plus) [] [] (He.fAd K ("plus", none)) fd_plus
  g_plus : mg "plus" = some (.ref (He.fAd K ("plus", none)))
  fd_times : FuncData
  F_times : FunD K "times" "times" (defArgs s_times) (defBody s_times) (defScope s_times) [] [] (He.fAd K ("times", none)) fd_times
  g_times : mg "times" = some (.ref (He.fAd K ("times", none)))
  fd_over : FuncData
  F_over : FunD K "over" "over" (defArgs s_over) (defBody s_over) (defScope s_over) [] [] (He.fAd K ("over", none)) fd_over
  g_over : mg "over" = some (.ref (He.fAd K ("over", none)))
  fd__law_turned : FuncData
  F__law_turned : FunD K "_law_turned" "_law_turned" (defArgs s__law_turned) (defBody s__law_turned) (defScope s__law_turned) [] [] (He.fAd K ("_law_turned", none)) fd__law_turned
  g__law_turned : mg "_law_turned" = some (.ref (He.fAd K ("_law_turned", none)))
  fd__law_along : FuncData
  F__law_along : FunD K "_law_along" "_law_along" (defArgs s__law_along) (defBody s__law_along) (defScope s__law_along) [] [] (He.fAd K ("_law_along", none)) fd__law_along
  g__law_along : mg "_law_along" = some (.ref (He.fAd K ("_law_along", none)))
  fd__law_entry_cap : FuncData
  F__law_entry_cap : FunD K "_law_entry_cap" "_law_entry_cap" (defArgs s__law_entry_cap) (defBody s__law_entry_cap) (defScope s__law_entry_cap) [] [] (He.fAd K ("_law_entry_cap", none)) fd__law_entry_cap
  g__law_entry_cap : mg "_law_entry_cap" = some (.ref (He.fAd K ("_law_entry_cap", none)))
  fd__law_pull : FuncData
  F__law_pull : FunD K "_law_pull" "_law_pull" (defArgs s__law_pull) (defBody s__law_pull) (defScope s__law_pull) [] [] (He.fAd K ("_law_pull", none)) fd__law_pull
  g__law_pull : mg "_law_pull" = some (.ref (He.fAd K ("_law_pull", none)))
  fd__law_jolt : FuncData
  F__law_jolt : FunD K "_law_jolt" "_law_jolt" (defArgs s__law_jolt) (defBody s__law_jolt) (defScope s__law_jolt) [] [] (He.fAd K ("_law_jolt", none)) fd__law_jolt
  g__law_jolt : mg "_law_jolt" = some (.ref (He.fAd K ("_law_jolt", none)))
  fd_minus : FuncData
  F_minus : FunD K "minus" "minus" (defArgs s_minus) (defBody s_minus) (defScope s_minus) [] [] (He.fAd K ("minus", none)) fd_minus
  g_minus : mg "minus" = some (.ref (He.fAd K ("minus", none)))
  fd_scaled : FuncData
  F_scaled : FunD K "scaled" "scaled" (defArgs s_scaled) (defBody s_scaled) (defScope s_scaled) [] [] (He.fAd K ("scaled", none)) fd_scaled
  g_scaled : mg "scaled" = some (.ref (He.fAd K ("scaled", none)))
  fd_dot : FuncData
  F_dot : FunD K "dot" "dot" (defArgs s_dot) (defBody s_dot) (defScope s_dot) [] [] (He.fAd K ("dot", none)) fd_dot
  g_dot : mg "dot" = some (.ref (He.fAd K ("dot", none)))
  fd_greatest_gear : FuncData
  F_greatest_gear : FunD K "greatest_gear" "greatest_gear" (defArgs s_greatest_gear) (defBody s_greatest_gear) (defScope s_greatest_gear) [] [] (He.fAd K ("greatest_gear", none)) fd_greatest_gear
  g_greatest_gear : mg "greatest_gear" = some (.ref (He.fAd K ("greatest_gear", none)))
  fd__law_step : FuncData
  F__law_step : FunD K "_law_step" "_law_step" (defArgs s__law_step) (defBody s__law_step) (defScope s__law_step) [] [] (He.fAd K ("_law_step", none)) fd__law_step
  g__law_step : mg "_law_step" = some (.ref (He.fAd K ("_law_step", none)))
  fd__law_joint_caps : FuncData
  F__law_joint_caps : FunD K "_law_joint_caps" "_law_joint_caps" (defArgs s__law_joint_caps) (defBody s__law_joint_caps) (defScope s__law_joint_caps) [] [] (He.fAd K ("_law_joint_caps", none)) fd__law_joint_caps
  g__law_joint_caps : mg "_law_joint_caps" = some (.ref (He.fAd K ("_law_joint_caps", none)))
  fd_lessened : FuncData
  F_lessened : FunD K "lessened" "lessened" (defArgs s_lessened) (defBody s_lessened) (defScope s_lessened) [] [] (He.fAd K ("lessened", none)) fd_lessened
  g_lessened : mg "lessened" = some (.ref (He.fAd K ("lessened", none)))
  fd__law_way : FuncData
  F__law_way : FunD K "_law_way" "_law_way" (defArgs s__law_way) (defBody s__law_way) (defScope s__law_way) [] [] (He.fAd K ("_law_way", none)) fd__law_way
  g__law_way : mg "_law_way" = some (.ref (He.fAd K ("_law_way", none)))
  fd_distance : FuncData
  F_distance : FunD K "distance" "distance" (defArgs s_distance) (defBody s_distance) (defScope s_distance) [] [] (He.fAd K ("distance", none)) fd_distance
  g_distance : mg "distance" = some (.ref (He.fAd K ("distance", none)))
  fd_heading_to : FuncData
  F_heading_to : FunD K "heading_to" "heading_to" (defArgs s_heading_to) (defBody s_heading_to) (defScope s_heading_to) [] [] (He.fAd K ("heading_to", none)) fd_heading_to
  g_heading_to : mg "heading_to" = some (.ref (He.fAd K ("heading_to", none)))
  fd_radius_of : FuncData
  F_radius_of : FunD K "radius_of" "radius_of" (defArgs s_radius_of) (defBody s_radius_of) (defScope s_radius_of) [] [] (He.fAd K ("radius_of", none)) fd_radius_of
  g_radius_of : mg "radius_of" = some (.ref (He.fAd K ("radius_of", none)))
  fd_heading_at : FuncData
  F_heading_at : FunD K "heading_at" "heading_at" (defArgs s_heading_at) (defBody s_heading_at) (defScope s_heading_at) [] [] (He.fAd K ("heading_at", none)) fd_heading_at
  g_heading_at : mg "heading_at" = some (.ref (He.fAd K ("heading_at", none)))
  fd_entry_cap : FuncData
  F_entry_cap : FunD K "entry_cap" "entry_cap" (defArgs s_entry_cap) (defBody s_entry_cap) (defScope s_entry_cap) [] [] (He.fAd K ("entry_cap", none)) fd_entry_cap
  g_entry_cap : mg "entry_cap" = some (.ref (He.fAd K ("entry_cap", none)))
  fd_headings : FuncData
  F_headings : FunD K "headings" "headings" (defArgs s_headings) (defBody s_headings) (defScope s_headings) [] [] (He.fAd K ("headings", none)) fd_headings
  g_headings : mg "headings" = some (.ref (He.fAd K ("headings", none)))
  fd_jolt_cap : FuncData
  F_jolt_cap : FunD K "jolt_cap" "jolt_cap" (defArgs s_jolt_cap) (defBody s_jolt_cap) (defScope s_jolt_cap) [] [] (He.fAd K ("jolt_cap", none)) fd_jolt_cap
  g_jolt_cap : mg "jolt_cap" = some (.ref (He.fAd K ("jolt_cap", none)))
  fd_joint_cap : FuncData
  F_joint_cap : FunD K "joint_cap" "joint_cap" (defArgs s_joint_cap) (defBody s_joint_cap) (defScope s_joint_cap) [] [] (He.fAd K ("joint_cap", none)) fd_joint_cap
  g_joint_cap : mg "joint_cap" = some (.ref (He.fAd K ("joint_cap", none)))
  fd_joint_caps : FuncData
  F_joint_caps : FunD K "joint_caps" "joint_caps" (defArgs s_joint_caps) (defBody s_joint_caps) (defScope s_joint_caps) [] [("pull", V.ref (He.ga K "PULL")), ("jolt", V.ref (He.ga K "JOLT"))] (He.fAd K ("joint_caps", none)) fd_joint_caps
  g_joint_caps : mg "joint_caps" = some (.ref (He.fAd K ("joint_caps", none)))
  fd_law : FuncData
  F_law : FunD K "law" "law" (defArgs s_law) (defBody s_law) (defScope s_law) [] [] (He.fAd K ("law", none)) fd_law
  g_law : mg "law" = some (.ref (He.fAd K ("law", none)))
  m_abs : mg "abs" = none
  m_all : mg "all" = none
  m_any : mg "any" = none
  m_bool : mg "bool" = none
  m_int : mg "int" = none
  m_isinstance : mg "isinstance" = none
  m_len : mg "len" = none
  m_list : mg "list" = none
  m_max : mg "max" = none
  m_min : mg "min" = none
  m_range : mg "range" = none
  m_zip : mg "zip" = none
  c_PULL : CstD K mg "PULL" (PyData.tuple [(PyData.int 2), (PyData.int 1)])
  c_JOLT : CstD K mg "JOLT" (PyData.tuple [(PyData.int 1), (PyData.int 1)])
  c_NOUGHT : CstD K mg "NOUGHT" (PyData.tuple [(PyData.int 0), (PyData.int 1)])
  c_ONE : CstD K mg "ONE" (PyData.tuple [(PyData.int 1), (PyData.int 1)])
  c_MOST_GEAR : CstD K mg "MOST_GEAR" (PyData.int 9)
  c_TWO : CstD K mg "TWO" (PyData.tuple [(PyData.int 2), (PyData.int 1)])
  gc_PULL : mg "PULL" = some (.ref (He.ga K "PULL"))
  gc_JOLT : mg "JOLT" = some (.ref (He.ga K "JOLT"))
theorem b_shared {K : Fg} {mg : Str → Option Value} (T : Tx K mg) : Binds K T.fd_shared ["one", "other"] [] := T.F_shared.bindsN fun _ _ _ _ _ _ us hl => match us, hl with | [_, _], _ => rfl
theorem fm_shared : FMono f_shared := fm2
theorem ln_shared : ∀ ds Q, f_shared ds Q → ds.length = (["one", "other"] : List Str).length := ln2
theorem ok_shared {P : Program} {w : World} {K : Fg} {mg : Str → Option Value} {base : Heap} (T : Tx K mg) : FnOk P w K mg base CX0 1 (He.fAd K ("shared", none)) T.fd_shared ["one", "other"] (spP K f_shared) := by
  refine ok_pure T.F_shared sc_shared fm_shared ln_shared (fun cdv A outer s H E Z hr => ⟨_, (dss_cons (ds_par (i := 0) (j := 1) rfl sc_shared.nd rfl rfl (by decide) rfl rfl (da_cons (de_b cd_abs rfl T.m_abs bb_abs (da_cons (de_var 0) da_nil)) (da_cons (de_b cd_abs rfl T.m_abs bb_abs (da_cons (de_var 1) da_nil)) da_nil)) (fun _ h => ps_par rfl sc_shared.nd rfl rfl (by decide) rfl rfl h (by rfl)))
    (dss_cons (ds_while PassesOwn.never (dt_cmp od_gt (de_var 1) de_int)
    (dss_one (ds_par (i := 0) (j := 1) rfl sc_shared.nd rfl rfl (by decide) rfl rfl (da_cons (de_var 1) (da_cons (de_op od_mod (de_var 0) (de_var 1)) da_nil)) (fun _ h => ps_par rfl sc_shared.nd rfl rfl (by decide) rfl rfl h (by rfl)))))
    (dss_one (ds_ret (de_var 0))))), fun ds Q h => ?_⟩)
  obtain ⟨a, b, rfl, _, hq⟩ := h
  walk_at "dl"
  rw [abs_if, abs_if]
  refine ⟨fun m δ => ∃ x y : Int, δ = [some (.sh (.int x)), some (.sh (.int y))] ∧ 0 ≤ x ∧ 0 ≤ y ∧ Int.gcd x y = Int.gcd a b ∧ m = y.toNat, ⟨_, _, _, rfl, by omega, by omega, rfl, rfl⟩, ?_⟩
  rintro m δ ⟨x, y, rfl, hx, hy, hg, rfl⟩
  walk_at "dl"
  by_cases h : 0 < y
  · simp only [h, decide_true]
    have h1 := Int.fmod_nonneg_of_pos x h
    have h2 := Int.fmod_lt_of_pos x h
    exact ⟨by omega, (x.fmod y).toNat, by omega, hy, h1, by rw [gcd_turn hx h]; exact hg, rfl⟩
  · simp only [h, decide_false]
    have e : y = 0 := by omega
    subst e
    rw [← gcd_zero hx, hg]
    exact hq
theorem b_opposite {K : Fg} {mg : Str → Option Value} (T : Tx K mg) : Binds K T.fd_opposite ["u"] [] := T.F_opposite.bindsN fun _ _ _ _ _ _ us hl => match us, hl with | [_], _ => rfl
theorem fm_opposite : FMono f_opp := fm1
theorem ln_opposite : ∀ ds Q, f_opp ds Q → ds.length = (["u"] : List Str).length := ln1
theorem ok_opposite {P : Program} {w : World} {K : Fg} {mg : Str → Option Value} {base : Heap} (T : Tx K mg) : FnOk P w K mg base CX0 1 (He.fAd K ("opposite", none)) T.fd_opposite ["u"] (spP K f_opp) := by
  refine ok_pure T.F_opposite sc_opposite fm_opposite ln_opposite (fun cdv A outer s H E Z hr => ⟨_, (dss_one (ds_ret (de_tup (da_cons (de_op od_sub de_int (de_ix (de_var 0) de_int)) (da_cons (de_ix (de_var 0) de_int) da_nil))))), fun ds Q h => ?_⟩)
  obtain ⟨u, rfl, _, hq⟩ := h
  walk_at "dl"
  try rw [num_negd]
  exact hq
theorem b_is_below {K : Fg} {mg : Str → Option Value} (T : Tx K mg) : Binds K T.fd_is_below ["u", "v"] [] := T.F_is_below.bindsN fun _ _ _ _ _ _ us hl => match us, hl with | [_, _], _ => rfl
theorem fm_is_below : FMono f_below := fm2
theorem ln_is_below : ∀ ds Q, f_below ds Q → ds.length = (["u", "v"] : List Str).length := ln2
theorem ok_is_below {P : Program} {w : World} {K : Fg} {mg : Str → Option Value} {base : Heap} (T : Tx K mg) : FnOk P w K mg base CX0 1 (He.fAd K ("is_below", none)) T.fd_is_below ["u", "v"] (spP K f_below) := by
  refine ok_pure T.F_is_below sc_is_below fm_is_below ln_is_below (fun cdv A outer s H E Z hr => ⟨_, (dss_one (ds_ret (de_cmp od_lt (de_op od_mul (de_ix (de_var 0) de_int) (de_ix (de_var 1) de_int)) (de_op od_mul (de_ix (de_var 1) de_int) (de_ix (de_var 0) de_int))))), fun ds Q h => ?_⟩)
  obtain ⟨u, v, rfl, ⟨hu, hv⟩, hq⟩ := h
  walk_at "dl"
  refine ⟨mulW hu.1 (by rw [Int.natAbs_natCast]; exact hv.2) (by decide), mulW hv.1 (by rw [Int.natAbs_natCast]; exact hu.2) (by decide), ?_⟩
  simp only [← Rat.lt_iff]
  exact hq
theorem b_side_of {K : Fg} {mg : Str → Option Value} (T : Tx K mg) : Binds K T.fd_side_of ["square"] [] := T.F_side_of.bindsN fun _ _ _ _ _ _ us hl => match us, hl with | [_], _ => rfl
theorem fm_side_of : FMono f_side := fm_side
theorem ln_side_of : ∀ ds Q, f_side ds Q → ds.length = (["square"] : List Str).length := ln_side
theorem ok_side_of {P : Program} {w : World} {K : Fg} {mg : Str → Option Value} {base : Heap} (T : Tx K mg) : FnOk P w K mg base CX0 1 (He.fAd K ("side_of", none)) T.fd_side_of ["square"] (spP K f_side) := by
  refine ok_pure T.F_side_of sc_side_of fm_side_of ln_side_of (fun cdv A outer s H E Z hr => ⟨_, (dss_cons (ds_if (dt_cmp od_lt (de_var 0) de_int)
    (dss_one (ds_ret (de_var 0)))
    dss_nil)
    (dss_cons (ds_set (i := 1) sc_side_of.nd rfl (by first | exact Or.inl rfl | exact Or.inr rfl) (de_op od_shl de_int (de_op od_div (de_op od_add (de_bits (de_var 0)) de_int) de_int)))
    (dss_cons (ds_set (i := 2) sc_side_of.nd rfl (by first | exact Or.inl rfl | exact Or.inr rfl) (de_op od_div (de_op od_add (de_var 1) (de_op od_div (de_var 0) (de_var 1))) de_int))
    (dss_cons (ds_while PassesOwn.never (dt_cmp od_lt (de_var 2) (de_var 1))
    (dss_cons (ds_set (i := 1) sc_side_of.nd rfl (by first | exact Or.inl rfl | exact Or.inr rfl) (de_var 2))
    (dss_one (ds_set (i := 2) sc_side_of.nd rfl (by first | exact Or.inl rfl | exact Or.inr rfl) (de_op od_div (de_op od_add (de_var 1) (de_op od_div (de_var 0) (de_var 1))) de_int)))))
    (dss_one (ds_ret (de_var 1))))))), fun ds Q h => ?_⟩)
  obtain ⟨n, rfl, ⟨h0, hz⟩, hq⟩ := h
  walk_at "dl"
  by_cases h : n < 2
  · simp only [h, decide_true]
    have : n = 0 ∨ n = 1 := by omega
    rcases this with rfl | rfl
    · exact hq 0 (by omega) (by omega) (by omega)
    · exact hq 1 (by omega) (by omega) (by omega)
  · simp only [h, decide_false]
    have hb := bits_bound n
    have hb2 := bits_le hz (by omega)
    generalize Builtin.Int.intBits n = b at hb hb2 ⊢
    have e2 : ((b : Int) + 1).fdiv 2 = ((b + 1) / 2 : Nat) := by rw [Int.fdiv_eq_ediv_of_nonneg _ (by omega)]; omega
    rw [e2, Int.one_mul, Int.toNat_natCast]
    have hc : (b + 1) / 2 ≤ 4000 := by omega
    have hs : n < 2 ^ ((b + 1) / 2) * 2 ^ ((b + 1) / 2) := by
      have : (2 : Nat) ^ b ≤ 2 ^ ((b + 1) / 2) * 2 ^ ((b + 1) / 2) := by
        rw [← Nat.pow_add]
        exact Nat.pow_le_pow_right (by omega) (by omega)
      have h3 : (((2 : Nat) ^ ((b + 1) / 2) * 2 ^ ((b + 1) / 2) : Nat) : Int) = 2 ^ ((b + 1) / 2) * 2 ^ ((b + 1) / 2) := by
        rw [Int.natCast_mul, Int.natCast_pow]
        rfl
      rw [← h3]
      omega
    have hp : (0 : Int) < 2 ^ ((b + 1) / 2) := Int.pow_pos (by omega)
    have hz2 : ((2 : Int) ^ ((b + 1) / 2)).natAbs < 2 ^ 4001 := by
      rw [Int.natAbs_pow]
      exact Nat.pow_lt_pow_right (by decide) (by omega)
    refine ⟨div64 (by omega) (by omega) (by omega), pow64 (by omega) (by omega) (by omega) (by omega), ?_⟩
    generalize (2 : Int) ^ ((b + 1) / 2) = s at hs hp hz2 ⊢
    refine ⟨divA (by omega) hz2 (by decide), div64 (by omega) (by omega) (by omega), ?_⟩
    refine while_op (fun m δ => ∃ x : Int, δ = [some (.sh (.int n)), some (.sh (.int x)), some (.sh (.int ((x + n / x) / 2)))] ∧ 0 < x ∧ x.natAbs < 2 ^ 4001 ∧ n < (x + 1) * (x + 1) ∧ m = x.toNat) ⟨_, s, ?_, hp, hz2, ?_, rfl⟩ ?_
    · rw [Int.fdiv_eq_ediv_of_nonneg _ (by omega), Int.fdiv_eq_ediv_of_nonneg _ (by omega)]
    · have := sq_succ (r := s) (by omega)
      omega
    · rintro W hW m δ ⟨x, rfl, hx, hxz, hxn, rfl⟩
      walk_at "dl"
      have hq0 : 0 ≤ n / x := Int.ediv_nonneg h0 (by omega)
      have hcl : 0 < (x + n / x) / 2 := by
        by_cases hx1 : x = 1
        · subst hx1
          rw [Int.ediv_one]
          omega
        · omega
      have hnw := newton h0 hx
      have hend := newton_end (n := n) hx
      generalize (x + n / x) / 2 = c at *
      by_cases hlt : c < x
      · simp only [hlt, decide_true]
        refine ⟨divA (by omega) (Nat.lt_trans (show c.natAbs < x.natAbs by omega) hxz) (by decide), div64 (by omega) (by omega) (by omega), c.toNat, by omega, hW _ _ ⟨c, ?_, hcl, Nat.lt_trans (show c.natAbs < x.natAbs by omega) hxz, hnw, rfl⟩⟩
        rw [Int.fdiv_eq_ediv_of_nonneg _ (by omega), Int.fdiv_eq_ediv_of_nonneg _ (by omega)]
      · simp only [hlt, decide_false]
        exact hq x (by omega) (hend (by omega)) hxn
theorem b__law_bag {K : Fg} {mg : Str → Option Value} (T : Tx K mg) : Binds K T.fd__law_bag ["_law_script", "_law_at"] [] := T.F__law_bag.bindsN fun _ _ _ _ _ _ us hl => match us, hl with | [_, _], _ => rfl
theorem fm__law_bag : FMono f_bag := fm_bag
theorem ln__law_bag : ∀ ds Q, f_bag ds Q → ds.length = (["_law_script", "_law_at"] : List Str).length := ln_bag
theorem ok__law_bag {P : Program} {w : World} {K : Fg} {mg : Str → Option Value} {base : Heap} (T : Tx K mg) : FnOk P w K mg base CX0 1 (He.fAd K ("_law_bag", none)) T.fd__law_bag ["_law_script", "_law_at"] (spP K f_bag) := by
  refine ok_pure T.F__law_bag sc__law_bag fm__law_bag ln__law_bag (fun cdv A outer s H E Z hr => ⟨_, (dss_cons (ds_set (i := 2) sc__law_bag.nd rfl (by first | exact Or.inl rfl | exact Or.inr rfl) (de_op od_add (de_op od_add (de_op od_mul (de_op od_mul de_int (de_var 1)) (de_var 1)) (de_op od_mul de_int (de_var 1))) de_int))
    (dss_cons (ds_if (dt_cmp od_lt (de_var 1) (de_b cd_len rfl T.m_len bb_len (da_cons (de_var 0) da_nil)))
    (dss_one (ds_set (i := 2) sc__law_bag.nd rfl (by first | exact Or.inl rfl | exact Or.inr rfl) (de_ix (de_var 0) (de_var 1))))
    dss_nil)
    (dss_cons (ds_set (i := 3) sc__law_bag.nd rfl (by first | exact Or.inl rfl | exact Or.inr rfl) (de_b cd_abs rfl T.m_abs bb_abs (da_cons (de_var 2) da_nil)))
    (dss_one (ds_retO (do_lst (da_cons (de_op od_mulS (de_var 3) (de_ty cd_int rfl T.m_int bt_int (da_cons (de_cmp od_ge (de_var 3) (de_op od_powB de_int de_int)) da_nil))) (da_cons (de_op od_add (de_op od_add (de_op od_mod (de_var 2) (de_op od_add (de_op od_powB de_int de_int) de_int)) (de_op od_mul de_int (de_var 1))) de_int) (da_cons de_int da_nil))))))))), fun ds Q h => ?_⟩)
  obtain ⟨ns, k, rfl, hl, h1, h2, hq⟩ := h
  have e18 : (10 : Int) ^ Int.toNat 18 = 1000000000000000000 := rfl
  have p1 := mul_in (a := 613 * k) (b := k) (A := 613000) (B := 1000) (by omega) (by omega) (by omega) (by omega)
  have m1 : CMulW 613 k := mul64 (by omega) (by omega) (by omega) (by omega)
  have m2 : CMulW (613 * k) k := mul64 (by omega) (by omega) (by omega) (by omega)
  have m3 : CMulW 59 k := mul64 (by omega) (by omega) (by omega) (by omega)
  have m4 : CMulW 7907 k := mul64 (by omega) (by omega) (by omega) (by omega)
  have w1 : CPowB 10 18 := powB64 (by omega) (by omega) (by omega) (by omega)
  refine seq_at (fun δ => ∃ c : Int, δ = [some (.sh (.list (ns.map .int))), some (.sh (.int k)), some (.sh (.int c)), none]) ?_ ?_
  · walk_at "dl"
    exact ⟨m1, m2, m3⟩
  rintro _ ⟨c, rfl⟩
  refine seq_at (fun δ => ∃ c : Int, δ = [some (.sh (.list (ns.map .int))), some (.sh (.int k)), some (.sh (.int c)), none]) ?_ ?_
  · walk_at "dl"
    by_cases h : k < ((ns.map PyData.int).length : Int)
    · simp only [h, decide_true]
      rw [List.length_map] at h
      obtain ⟨z, e, _⟩ := atI_ints h1 h
      exact ⟨_, e, z, rfl⟩
    · simp only [h, decide_false]
  rintro _ ⟨c, rfl⟩
  walk_at "dl"
  rw [e18, abs_if]
  have pm := fmod_in (a := c) (b := 1000000000000000000 + 3) (by omega)
  have big : ∀ b : Bool, CMul ((c.natAbs : Nat) : Int) (if b = true then 1 else 0) := by
    intro b
    cases b
    · exact .inr ⟨by decide, by decide⟩
    · exact .inr ⟨by decide, by decide⟩
  refine ⟨w1, big _, w1, by decide, m4, hq _ ⟨_, _, 0, rfl, ?_, by omega, by omega, by omega, by omega⟩⟩
  exact Int.mul_nonneg (by omega) (by split <;> omega)
theorem b__law_take {K : Fg} {mg : Str → Option Value} (T : Tx K mg) : Binds K T.fd__law_take ["_law_bag_here", "_law_many"] [] := T.F__law_take.bindsN fun _ _ _ _ _ _ us hl => match us, hl with | [_, _], _ => rfl
theorem bm__law_take : BMono f_take := bm1
theorem ln__law_take : ∀ xs ds Q, f_take xs ds Q → ds.length + 1 = (["_law_bag_here", "_law_many"] : List Str).length := bl1
theorem ok__law_take {P : Program} {w : World} {K : Fg} {mg : Str → Option Value} {base : Heap} (T : Tx K mg) : FnOk P w K mg base CX0 1 (He.fAd K ("_law_take", none)) T.fd__law_take ["_law_bag_here", "_law_many"] (spB K f_take) := by
  refine ok_bag T.F__law_take sc__law_take bm__law_take ln__law_take (fun cdv A outer s H E Z hr => ⟨_, (dss_cons (ds_if (dt_cmp od_gt (de_ixo 0 de_int) de_int)
    (dss_cons (ds_set (i := 7) sc__law_take.nd rfl (by first | exact Or.inl rfl | exact Or.inr rfl) (de_op od_mod (de_ixo 0 de_int) (de_var 1)))
    (dss_cons (ds_setix 0 (de_op od_div (de_ixo 0 de_int) (de_var 1)) de_int)
    (dss_one (ds_ret (de_var 7)))))
    dss_nil)
    (dss_cons (ds_set (i := 2) sc__law_take.nd rfl (by first | exact Or.inl rfl | exact Or.inr rfl) (de_tup (da_cons de_int (da_cons de_int (da_cons de_int (da_cons de_int (da_cons de_int da_nil)))))))
    (dss_cons (ds_setix 0 (de_op od_add (de_ixo 0 de_int) de_int) de_int)
    (dss_cons (ds_set (i := 3) sc__law_take.nd rfl (by first | exact Or.inl rfl | exact Or.inr rfl) (de_ixo 0 de_int))
    (dss_cons (ds_set (i := 4) sc__law_take.nd rfl (by first | exact Or.inl rfl | exact Or.inr rfl) (de_op od_add (de_op od_add (de_op od_mul (de_ixo 0 de_int) (de_op od_add (de_op od_mul de_int (de_var 3)) de_int)) (de_op od_mul (de_op od_mul de_int (de_var 3)) (de_var 3))) de_int))
    (dss_cons (ds_set (i := 5) sc__law_take.nd rfl (by first | exact Or.inl rfl | exact Or.inr rfl) (de_op od_mod (de_op od_powB (de_var 4) de_int) (de_ix (de_var 2) (de_op od_mod (de_var 3) de_int))))
    (dss_cons (ds_set (i := 6) sc__law_take.nd rfl (by first | exact Or.inl rfl | exact Or.inr rfl) (de_ix (de_var 2) (de_op od_mod (de_op od_add (de_var 3) de_int) de_int)))
    (dss_one (ds_ret (de_op od_mod (de_op od_div (de_op od_mod (de_op od_mul (de_var 5) (de_op od_add (de_op od_div (de_var 5) de_int) (de_var 3))) (de_var 6)) de_int) (de_var 1))))))))))), fun xs ds Q h => ?_⟩)
  obtain ⟨n, m, ⟨g, k, st, rfl, h1, h2, h3, h4, h5⟩, hn, rfl, ⟨hm, hm2⟩, hq⟩ := h
  have hn' : n + 1 ≤ 1000000 := hn
  have hm3 : m < 18446744073709551616 := hm2
  walk_at "dl"
  by_cases hg : 0 < g
  · simp only [hg, decide_true]
    refine ⟨by omega, div64 (by omega) (by omega) (by omega), hq _ _ (fmod_in hm) ⟨_, _, _, rfl, fdiv_nn h1 hm, h2, h3, h4, by omega⟩⟩
  · simp only [hg, decide_false]
    have p90 : (2 : Nat) ^ 90 = 1237940039285380274899124224 := by decide
    have p1 := mul_in (a := k) (b := 2 * (st + 1) + 1) (A := 2305843009213693952) (B := 2000001) h2 (by omega) (by omega) (by omega)
    have p2 := mul_in (a := 4099 * (st + 1)) (b := st + 1) (A := 4099000000) (B := 1000000) (by omega) (by omega) (by omega) (by omega)
    refine ⟨mul64 (by omega) (by omega) (by omega) (by omega), mul64 (by omega) (by omega) (by omega) (by omega), mul64 (by omega) (by omega) (by omega) (by omega), mul64 (by omega) (by omega) (by omega) (by omega), powB (b := 90) (by omega) (by omega) (by omega), by omega, ?_⟩
    obtain ⟨pr, ⟨q1, q2⟩, e1⟩ := pick5 (fmod_in (a := st + 1) (b := 5) (by omega)).1 (fmod_in (a := st + 1) (b := 5) (by omega)).2
    obtain ⟨pr2, ⟨q3, q4⟩, e2⟩ := pick5 (fmod_in (a := st + 1 + 2) (b := 5) (by omega)).1 (fmod_in (a := st + 1 + 2) (b := 5) (by omega)).2
    refine ⟨_, e1, ?_⟩
    walk_at "dl"
    refine ⟨by omega, by omega, _, e2, ?_⟩
    have p3 := fmod_in (a := (k * (2 * (st + 1) + 1) + 4099 * (st + 1) * (st + 1) + 71) ^ Int.toNat 3) (b := pr) (by omega)
    generalize Int.fmod ((k * (2 * (st + 1) + 1) + 4099 * (st + 1) * (st + 1) + 71) ^ Int.toNat 3) pr = y at p3 ⊢
    have p5 : 0 ≤ y.fdiv 4096 := fdiv_nn p3.1 (by omega)
    have p6 : y.fdiv 4096 ≤ y := by rw [Int.fdiv_eq_ediv_of_nonneg _ (by omega)]; omega
    walk_at "dl"
    have p4 := mul_in (a := y) (b := y.fdiv 4096 + (st + 1)) (A := 2147483647) (B := 2148483647) (by omega) (by omega) (by omega) (by omega)
    refine ⟨div64 (by omega) (by omega) (by omega), mul64 (by omega) (by omega) (by omega) (by omega), by omega, div64 (by omega) (by omega) (by omega), by omega, hq _ _ (fmod_in hm) ⟨_, _, _, rfl, h1, h2, h3, by omega, by omega⟩⟩
theorem b__law_low {K : Fg} {mg : Str → Option Value} (T : Tx K mg) : Binds K T.fd__law_low ["_law_top", "_law_bottom"] [] := T.F__law_low.bindsN fun _ _ _ _ _ _ us hl => match us, hl with | [_, _], _ => rfl
theorem fm__law_low : FMono f_low2 := fm2
theorem ln__law_low : ∀ ds Q, f_low2 ds Q → ds.length = (["_law_top", "_law_bottom"] : List Str).length := ln2
theorem ok__law_low {P : Program} {w : World} {K : Fg} {mg : Str → Option Value} {base : Heap} (T : Tx K mg) : FnOk P w K mg base CX0 1 (He.fAd K ("_law_low", none)) T.fd__law_low ["_law_top", "_law_bottom"] (spP K f_low2) := by
  refine ok_pure T.F__law_low sc__law_low fm__law_low ln__law_low (fun cdv A outer s H E Z hr => ⟨_, (dss_cons (ds_par (i := 2) (j := 3) rfl sc__law_low.nd rfl rfl (by decide) rfl rfl (da_cons (de_b cd_abs rfl T.m_abs bb_abs (da_cons (de_var 0) da_nil)) (da_cons (de_var 1) da_nil)) (fun _ h => ps_par rfl sc__law_low.nd rfl rfl (by decide) rfl rfl h (by rfl)))
    (dss_cons (ds_while PassesOwn.never (dt_cmp od_gt (de_var 3) de_int)
    (dss_one (ds_par (i := 2) (j := 3) rfl sc__law_low.nd rfl rfl (by decide) rfl rfl (da_cons (de_var 3) (da_cons (de_op od_mod (de_var 2) (de_var 3)) da_nil)) (fun _ h => ps_par rfl sc__law_low.nd rfl rfl (by decide) rfl rfl h (by rfl)))))
    (dss_one (ds_ret (de_tup (da_cons (de_op od_div (de_var 0) (de_var 2)) (da_cons (de_op od_div (de_var 1) (de_var 2)) da_nil))))))), fun ds Q h => ?_⟩)
  obtain ⟨a, b, rfl, ⟨hb, hz⟩, hq⟩ := h
  walk_at "dl"
  rw [abs_if]
  refine ⟨fun m δ => ∃ x y : Int, δ = [some (.sh (.int a)), some (.sh (.int b)), some (.sh (.int x)), some (.sh (.int y))] ∧ 0 ≤ x ∧ 0 ≤ y ∧ Int.gcd x y = Int.gcd a b ∧ m = y.toNat, ⟨_, _, _, rfl, by omega, by omega, by simp only [Int.gcd, Int.natAbs_natCast], rfl⟩, ?_⟩
  rintro m δ ⟨x, y, rfl, hx, hy, hg, rfl⟩
  walk_at "dl"
  by_cases h : 0 < y
  · simp only [h, decide_true]
    have h1 := Int.fmod_nonneg_of_pos x h
    have h2 := Int.fmod_lt_of_pos x h
    exact ⟨by omega, (x.fmod y).toNat, by omega, hy, h1, by rw [gcd_turn hx h]; exact hg, rfl⟩
  · simp only [h, decide_false]
    have e : y = 0 := by omega
    subst e
    have hp : 0 < Int.gcd a b := Int.gcd_pos_of_ne_zero_right _ (by omega)
    have hs : Int.gcd a b < 2 ^ 9000 := Nat.lt_of_le_of_lt (Nat.le_of_dvd (by omega) (Int.gcd_dvd_natAbs_right a b)) hz
    have e2 : ((Int.gcd a b : Nat) : Int).natAbs = Int.gcd a b := by omega
    have e3 : x = ((Int.gcd a b : Nat) : Int) := by rw [← gcd_zero hx, hg]
    subst e3
    refine ⟨divA (b := 9000) (by omega) (by rw [e2]; exact hs) (Nat.le_refl _), divA (b := 9000) (by omega) (by rw [e2]; exact hs) (Nat.le_refl _), ?_⟩
    rw [num_pos hb, den_pos' hb]
    exact hq
theorem b__law_gear {K : Fg} {mg : Str → Option Value} (T : Tx K mg) : Binds K T.fd__law_gear ["_law_most", "_law_part", "_law_bound"] [] := T.F__law_gear.bindsN fun _ _ _ _ _ _ us hl => match us, hl with | [_, _, _], _ => rfl
theorem fm__law_gear : FMono f_gear := fm3
theorem ln__law_gear : ∀ ds Q, f_gear ds Q → ds.length = (["_law_most", "_law_part", "_law_bound"] : List Str).length := ln3
theorem ok__law_gear {P : Program} {w : World} {K : Fg} {mg : Str → Option Value} {base : Heap} (T : Tx K mg) : FnOk P w K mg base CX0 1 (He.fAd K ("_law_gear", none)) T.fd__law_gear ["_law_most", "_law_part", "_law_bound"] (spP K f_gear) := by
  refine ok_pure T.F__law_gear sc__law_gear fm__law_gear ln__law_gear (fun cdv A outer s H E Z hr => ⟨_, (dss_cons (ds_asg (de_tup (da_cons (de_op od_mul (de_ix (de_var 2) de_int) (de_ix (de_var 1) de_int)) (da_cons (de_op od_mul (de_ix (de_var 1) de_int) (de_ix (de_var 2) de_int)) da_nil))) (dg_tup (n := 2) rfl (dgs_cons (dg_name (i := 3) sc__law_gear.nd rfl (by first | exact Or.inl rfl | exact Or.inr rfl)) (dgs_cons (dg_name (i := 4) sc__law_gear.nd rfl (by first | exact Or.inl rfl | exact Or.inr rfl)) dgs_nil))))
    (dss_one (ds_ret (de_b (cd_maxL rfl) rfl T.m_max bb_max (da_cons (Do.sh (do_lc [("_law_k", 5)] rfl sc__law_gear.nd (di_range1 rfl T.m_range (da_cons (de_op od_add (de_var 0) de_int) da_nil)) (blkOk_by (own := [("_law_k", 5)]) (N := ["_law_most", "_law_part", "_law_bound", "_law_high", "_law_low_here", "_law_k"]) (sc := defScope s__law_gear) (by decide +kernel)) (fun _ _ _ _ _ _ => (dg_name (i := 5) sc__law_gear.nd rfl (by first | exact Or.inl rfl | exact Or.inr rfl))) (fun _ _ _ _ _ _ => dts_one (dt_cmp od_le (de_op od_mul (de_op od_mul (de_var 5) (de_var 5)) (de_var 4)) (de_var 3))) (fun _ _ _ _ _ _ => (de_var 5)))) da_nil))))), fun ds Q h => ?_⟩)
  obtain ⟨m, pt, bd, rfl, ⟨⟨h1, h2⟩, h3, h4, h5⟩, hq⟩ := h
  walk_at "dl"
  simp only [iRg1]
  walk_at "dl"
  have mh : CMulW bd.num pt.den := mulW (a := 900) (b := 900) h5.1 (by have := h4.2; omega) (by decide)
  have ml : CMulW pt.num bd.den := mulW (a := 900) (b := 900) h4.1 (by have := h5.2; omega) (by decide)
  have nl : (pt.num * (bd.den : Int)).natAbs < 2 ^ 1800 := by
    rw [Int.natAbs_mul, show (2 : Nat) ^ 1800 = 2 ^ 900 * 2 ^ 900 by rw [← Nat.pow_add]]
    exact Nat.mul_lt_mul'' h4.1 h5.2
  refine ⟨mh, ml, by omega, by omega, ?_⟩
  generalize hH : bd.num * (pt.den : Int) = hi
  generalize hL : pt.num * (bd.den : Int) = lo at nl
  refine lc_at (fun j acc δ => δ = [some (Sl.sh (PyData.int m)), some (Sl.sh (numD pt)), some (Sl.sh (numD bd)), some (Sl.sh (PyData.int hi)), some (Sl.sh (PyData.int lo)), none] ∧
    ∃ ks : List Int, acc = ks.map .int ∧ (∀ k ∈ ks, ∃ i : Nat, k = i ∧ i < j ∧ (i : Int) * (i : Int) * lo ≤ hi) ∧ (∀ i : Nat, i < j → (i : Int) * (i : Int) * lo ≤ hi → (i : Int) ∈ ks) ∧ ks.length ≤ j) _ ⟨rfl, [], rfl, (fun k z => nomatch z), (fun i z => absurd z (Nat.not_lt_zero _)), Nat.le_refl _⟩ ?_ ?_
  · rintro U hU j d acc δ hj ⟨rfl, ks, rfl, hk1, hk2, hk3⟩
    have hi2 := get_lt hj
    rw [rngD_len] at hi2
    rw [rngD_get hi2] at hj
    cases hj
    rw [Int.zero_add]
    walk_at "dl"
    have j9 : (j : Int) * (j : Int) ≤ 100 := Int.mul_le_mul (a := (j : Int)) (b := (j : Int)) (c := 10) (d := 10) (by omega) (by omega) (by omega) (by omega)
    have j0 : 0 ≤ (j : Int) * (j : Int) := Int.mul_nonneg (by omega) (by omega)
    refine ⟨mul64 (by omega) (by omega) (by omega) (by omega), mulW (a := 20) (b := 1800) (show _ < 1048576 by omega) nl (by decide), ?_⟩
    by_cases h : (j : Int) * (j : Int) * lo ≤ hi
    · simp only [h, decide_true]
      refine ⟨by rw [List.length_map]; omega, hU _ _ _ ⟨rfl, ks ++ [(j : Int)], by rw [List.map_append]; rfl, ?_, ?_, by rw [List.length_append]; exact Nat.succ_le_succ hk3⟩⟩
      · intro k hk
        rcases List.mem_append.mp hk with z | z
        · obtain ⟨i, a, b, c⟩ := hk1 k z
          exact ⟨i, a, by omega, c⟩
        · exact ⟨j, List.mem_singleton.mp z, by omega, h⟩
      · intro i hi' hc
        rcases Nat.lt_or_ge i j with z | z
        · exact List.mem_append_left _ (hk2 i z hc)
        · rw [show i = j by omega]
          exact List.mem_append_right _ (List.mem_singleton.mpr rfl)
    · simp only [h, decide_false]
      refine hU _ _ _ ⟨rfl, ks, rfl, ?_, ?_, by omega⟩
      · intro k hk
        obtain ⟨i, a, b, c⟩ := hk1 k hk
        exact ⟨i, a, by omega, c⟩
      · intro i hi' hc
        rcases Nat.lt_or_ge i j with z | z
        · exact hk2 i z hc
        · rw [show i = j by omega] at hc
          exact absurd hc h
  · rintro acc δ ⟨rfl, ks, rfl, hk1, hk2, hk3⟩
    rw [rngD_len] at hk1 hk2
    have z0 : ((0 : Nat) : Int) ∈ ks := hk2 0 (by omega) (by
      rw [← hH, ← hL]
      refine ok_iff.mpr ?_
      rw [show ((0 : Nat) : Rat) = 0 from rfl]
      grind)
    refine ⟨ks, ints_of ks, List.length_pos_of_mem z0, fun g hg htop => ?_⟩
    obtain ⟨i, rfl, hi1, hi2⟩ := hk1 g hg
    rw [← hH, ← hL] at hi2 hk2
    have e := gear_uniq (m := m.toNat) (g := i) (pt := pt) (bd := bd) (by omega) (ok_iff.mp hi2) fun k hk hc => by
      have := htop _ (hk2 k (by omega) (ok_iff.mpr hc))
      omega
    have hq : Q (Res.d (PyData.int ((gearN m.toNat pt bd : Nat) : Int))) := hq
    rw [e] at hq
    exact hq
theorem b__law_are_gears {K : Fg} {mg : Str → Option Value} (T : Tx K mg) : Binds K T.fd__law_are_gears ["_law_told", "_law_due"] [] := T.F__law_are_gears.bindsN fun _ _ _ _ _ _ us hl => match us, hl with | [_, _], _ => rfl
theorem fm__law_are_gears : FMono f_areg := fm_areg
theorem ln__law_are_gears : ∀ ds Q, f_areg ds Q → ds.length = (["_law_told", "_law_due"] : List Str).length := ln_areg
theorem ok__law_are_gears {P : Program} {w : World} {K : Fg} {mg : Str → Option Value} {base : Heap} (T : Tx K mg) : FnOk P w K mg base CX0 1 (He.fAd K ("_law_are_gears", none)) T.fd__law_are_gears ["_law_told", "_law_due"] (spP K f_areg) := by
  refine ok_pure T.F__law_are_gears sc__law_are_gears fm__law_are_gears ln__law_are_gears (fun cdv A outer s H E Z hr => ⟨_, (dss_one (ds_ret (de_and (de_isi (de_var 0) kf_list rfl T.m_isinstance rfl T.m_list bt_list bb_isinstance) (de_and (de_cmp (od_eq hr.units) (de_var 0) (de_var 1)) (de_one (de_not (de_b (cd_any rfl) rfl T.m_any bb_any (da_cons (Do.sh (do_lc [("_law_one", 2)] rfl sc__law_are_gears.nd (di_list (de_var 0)) (blkOk_by (own := [("_law_one", 2)]) (N := ["_law_told", "_law_due", "_law_one"]) (sc := defScope s__law_are_gears) (by decide +kernel)) (fun _ _ _ _ _ _ => (dg_name (i := 2) sc__law_are_gears.nd rfl (by first | exact Or.inl rfl | exact Or.inr rfl))) (fun _ _ _ _ _ _ => dts_nil) (fun _ _ _ _ _ _ => (de_isi (de_var 2) kf_bool rfl T.m_isinstance rfl T.m_bool bt_bool bb_isinstance)))) da_nil)))))))), fun ds Q h => ?_⟩)
  obtain ⟨ks, rfl, hl, hq⟩ := h
  walk_at "dl"
  have sh : SeqAt.shaped (PyData.list (List.map PyData.int ks)) = true := sh_ints ks
  have eq : PyData.eqvAll (List.map PyData.int ks) (List.map PyData.int ks) = true := eqv_ints ks
  refine ⟨sh, sh, ?_⟩
  simp only [eq]
  refine lc_at (fun j acc δ => δ = [some (Sl.sh (PyData.list (List.map PyData.int ks))), some (Sl.sh (PyData.list (List.map PyData.int ks))), none] ∧ acc = List.replicate j (.bool false)) _ ⟨rfl, rfl⟩ ?_ ?_
  · rintro U hU j d acc δ hj ⟨rfl, rfl⟩
    obtain ⟨k, rfl, e, hlt⟩ := mget hj
    walk_at "dl"
    exact ⟨by rw [List.length_replicate]; omega, hU _ _ _ ⟨rfl, List.replicate_succ'.symm⟩⟩
  · rintro acc δ ⟨rfl, rfl⟩
    refine ⟨List.replicate _ false, bools_rep _, ?_⟩
    rw [any_rep]
    exact hq
theorem bx_ratio_1 {K : Fg} {mg : Str → Option Value} (T : Tx K mg) : ∃ ds, Vals [V.int 1] ds ∧ Binds K T.fd_ratio ["top", "bottom"] ds := T.F_ratio.binds1 1 0 (List.cons_ne_nil _ _) rfl (fun T kV doc pm an cdv ct us its h1 h2 => match us, its, h1, h2 with | [_], [_], _, _ => ⟨_, rfl, rfl⟩)
theorem b_ratio_1 {K : Fg} {mg : Str → Option Value} (T : Tx K mg) : Vals [V.int 1] (Classical.choose (bx_ratio_1 T)) ∧ Binds K T.fd_ratio ["top", "bottom"] (Classical.choose (bx_ratio_1 T)) := Classical.choose_spec (bx_ratio_1 T)
theorem dd_ratio_1 {K : Fg} : ∀ H, DL.DpAll K H [V.int 1] [PyData.int 1] := fun _ => .cons (.int 1) .nil
theorem bx_ratio_2 {K : Fg} {mg : Str → Option Value} (T : Tx K mg) : ∃ ds, Vals [] ds ∧ Binds K T.fd_ratio ["top", "bottom"] ds := T.F_ratio.binds1 2 1 (List.cons_ne_nil _ _) rfl (fun T kV doc pm an cdv ct us its h1 h2 => match us, its, h1, h2 with | [_, _], [_], _, _ => ⟨_, rfl, rfl⟩)
theorem b_ratio_2 {K : Fg} {mg : Str → Option Value} (T : Tx K mg) : Vals [] (Classical.choose (bx_ratio_2 T)) ∧ Binds K T.fd_ratio ["top", "bottom"] (Classical.choose (bx_ratio_2 T)) := Classical.choose_spec (bx_ratio_2 T)
theorem dd_ratio_2 {K : Fg} : ∀ H, DL.DpAll K H [] [] := fun _ => .nil
theorem b_ratio_1_bottom {K : Fg} {mg : Str → Option Value} (T : Tx K mg) : KBn K T.fd_ratio ["top", "bottom"] 1 ["bottom"] (fun us ws => us ++ ws) (fun vs zs => vs ++ zs) := kb1 T.F_ratio 1 ["bottom"] (List.cons_ne_nil _ _) (fun T kV doc pm an cdv ct us its ws h1 h2 h3 => match us, its, ws, h1, h2, h3 with | [_], [_], [_], _, _, _ => ⟨_, rfl, rfl⟩)
theorem fm_ratio : FMono f_ratio := fm2
theorem ln_ratio : ∀ ds Q, f_ratio ds Q → ds.length = (["top", "bottom"] : List Str).length := ln2
theorem ok_ratio {P : Program} {w : World} {K : Fg} {mg : Str → Option Value} {base : Heap} (T : Tx K mg) : FnOk P w K mg base CX0 2 (He.fAd K ("ratio", none)) T.fd_ratio ["top", "bottom"] (spP K f_ratio) := by
  refine ok_pure T.F_ratio sc_ratio fm_ratio ln_ratio (fun cdv A outer s H E Z hr => ⟨_, (dss_cons (ds_if (dt_cmp (od_eq hr.units) (de_var 1) de_int)
    (dss_one ds_never)
    dss_nil)
    (dss_cons (ds_set (i := 2) sc_ratio.nd rfl (by first | exact Or.inl rfl | exact Or.inr rfl) (de_call (ok_shared T) fm_shared (hr.mono (by decide)) rfl T.g_shared T.F_shared.kp (b_shared T) .nil (fun _ => .nil) (da_cons (de_var 0) (da_cons (de_var 1) da_nil))))
    (dss_cons (ds_if (dt_cmp od_lt (de_var 1) de_int)
    (dss_one (ds_set (i := 2) sc_ratio.nd rfl (by first | exact Or.inl rfl | exact Or.inr rfl) (de_op od_sub de_int (de_var 2))))
    dss_nil)
    (dss_one (ds_ret (de_tup (da_cons (de_op od_div (de_var 0) (de_var 2)) (da_cons (de_op od_div (de_var 1) (de_var 2)) da_nil)))))))), fun ds Q h => ?_⟩)
  obtain ⟨a, b, rfl, ⟨hb, hz⟩, hq⟩ := h
  walk_at "dl"
  have hb0 : (b == 0) = false := by simpa using hb
  rw [hb0]
  have hg : 0 < Int.gcd a b := Int.gcd_pos_of_ne_zero_right _ hb
  have hs : Int.gcd a b < 2 ^ 9000 := Nat.lt_of_le_of_lt (Nat.le_of_dvd (by omega) (Int.gcd_dvd_natAbs_right a b)) hz
  have e1 : (0 - (Int.gcd a b : Int)).natAbs = Int.gcd a b := by omega
  have e2 : ((Int.gcd a b : Nat) : Int).natAbs = Int.gcd a b := by omega
  by_cases h : b < 0
  · simp only [h, decide_true]
    refine ⟨divA (b := 9000) (by omega) (by rw [e1]; exact hs) (Nat.le_refl _), divA (b := 9000) (by omega) (by rw [e1]; exact hs) (Nat.le_refl _), ?_⟩
    rw [num_neg h, den_neg h]
    exact hq
  · simp only [h, decide_false]
    refine ⟨divA (b := 9000) (by omega) (by rw [e2]; exact hs) (Nat.le_refl _), divA (b := 9000) (by omega) (by rw [e2]; exact hs) (Nat.le_refl _), ?_⟩
    rw [num_pos (show 0 < b by omega), den_pos' (show 0 < b by omega)]
    exact hq
theorem b_root {K : Fg} {mg : Str → Option Value} (T : Tx K mg) : Binds K T.fd_root ["u"] [] := T.F_root.bindsN fun _ _ _ _ _ _ us hl => match us, hl with | [_], _ => rfl
theorem fm_root : FMono f_root := fm1
theorem ln_root : ∀ ds Q, f_root ds Q → ds.length = (["u"] : List Str).length := ln1
theorem ok_root {P : Program} {w : World} {K : Fg} {mg : Str → Option Value} {base : Heap} (T : Tx K mg) : FnOk P w K mg base CX0 2 (He.fAd K ("root", none)) T.fd_root ["u"] (spP K f_root) := by
  refine ok_pure T.F_root sc_root fm_root ln_root (fun cdv A outer s H E Z hr => ⟨_, (dss_cons (ds_if (dt_cmp od_lt (de_ix (de_var 0) de_int) de_int)
    (dss_one (ds_ret de_non))
    dss_nil)
    (dss_cons (ds_par (i := 1) (j := 2) rfl sc_root.nd rfl rfl (by decide) rfl rfl (da_cons (de_call (ok_side_of T) fm_side_of (hr.mono (by decide)) rfl T.g_side_of T.F_side_of.kp (b_side_of T) .nil (fun _ => .nil) (da_cons (de_ix (de_var 0) de_int) da_nil)) (da_cons (de_call (ok_side_of T) fm_side_of (hr.mono (by decide)) rfl T.g_side_of T.F_side_of.kp (b_side_of T) .nil (fun _ => .nil) (da_cons (de_ix (de_var 0) de_int) da_nil)) da_nil)) (fun _ h => ps_par rfl sc_root.nd rfl rfl (by decide) rfl rfl h (by rfl)))
    (dss_cons (ds_if (Dw.pt (dw_or (dt_cmp (od_ne hr.units) (de_op od_mul (de_var 1) (de_var 1)) (de_ix (de_var 0) de_int)) (dw_or1 (dt_cmp (od_ne hr.units) (de_op od_mul (de_var 2) (de_var 2)) (de_ix (de_var 0) de_int)))))
    (dss_one (ds_ret de_non))
    dss_nil)
    (dss_one (ds_ret (de_tup (da_cons (de_var 1) (da_cons (de_var 2) da_nil)))))))), fun ds Q h => ?_⟩)
  obtain ⟨u, rfl, hu, hq⟩ := h
  walk_at "dl"
  by_cases h : u.num < 0
  · simp only [h, decide_true]
    cases e : rt u with
    | none =>
      simp only [e] at hq
      exact hq
    | some r =>
      have := rt_num e
      have := Int.mul_nonneg this.1 this.1
      omega
  · simp only [h, decide_false]
    refine ⟨by omega, hu.1, fun r h1 h2 h3 => ⟨by omega, by rw [Int.natAbs_natCast]; exact hu.2, fun s h4 h5 h6 => ?_⟩⟩
    have he := root_end (Q := fun d => Q (.d d)) hq h1 h2 h3 h4 h5 h6
    have hr : r.natAbs < 2 ^ 8000 := Nat.lt_of_le_of_lt (show r.natAbs ≤ u.num.natAbs by
      have : r ≤ r * r := by
        rcases Int.lt_or_eq_of_le h1 with z | z
        · exact le_sq (by omega)
        · rw [← z]; decide
      omega) hu.1
    have hs : s.natAbs < 2 ^ 8000 := Nat.lt_of_le_of_lt (show s.natAbs ≤ u.den by
      have : s ≤ s * s := by
        rcases Int.lt_or_eq_of_le h4 with z | z
        · exact le_sq (by omega)
        · rw [← z]; decide
      omega) hu.2
    refine ⟨mulW hr hr (by decide), ?_⟩
    by_cases e1 : r * r = u.num
    · rw [e1]
      simp only [beq_self_eq_true, Bool.not_true]
      refine ⟨mulW hs hs (by decide), ?_⟩
      by_cases e2 : s * s = u.den
      · rw [e2]
        simp only [beq_self_eq_true, Bool.not_true]
        exact he.1 ⟨e1, e2⟩
      · have : (s * s == (u.den : Int)) = false := by simpa using e2
        rw [this]
        exact he.2 fun z => e2 z.2
    · have : (r * r == u.num) = false := by simpa using e1
      rw [this]
      exact he.2 fun z => e1 z.1
theorem b_left_of {K : Fg} {mg : Str → Option Value} (T : Tx K mg) : Binds K T.fd_left_of ["place"] [] := T.F_left_of.bindsN fun _ _ _ _ _ _ us hl => match us, hl with | [_], _ => rfl
theorem fm_left_of : FMono f_left := fm1
theorem ln_left_of : ∀ ds Q, f_left ds Q → ds.length = (["place"] : List Str).length := ln1
theorem ok_left_of {P : Program} {w : World} {K : Fg} {mg : Str → Option Value} {base : Heap} (T : Tx K mg) : FnOk P w K mg base CX0 2 (He.fAd K ("left_of", none)) T.fd_left_of ["place"] (spP K f_left) := by
  refine ok_pure T.F_left_of sc_left_of fm_left_of ln_left_of (fun cdv A outer s H E Z hr => ⟨_, (dss_one (ds_ret (de_tup (da_cons (de_call (ok_opposite T) fm_opposite (hr.mono (by decide)) rfl T.g_opposite T.F_opposite.kp (b_opposite T) .nil (fun _ => .nil) (da_cons (de_ix (de_var 0) de_int) da_nil)) (da_cons (de_ix (de_var 0) de_int) da_nil))))), fun ds Q h => ?_⟩)
  obtain ⟨⟨a, b⟩, rfl, _, hq⟩ := h
  simp only [plD] at hq ⊢
  walk_at "dl"
  walk_at "sd"
theorem b__law_plus {K : Fg} {mg : Str → Option Value} (T : Tx K mg) : Binds K T.fd__law_plus ["_law_u", "_law_v"] [] := T.F__law_plus.bindsN fun _ _ _ _ _ _ us hl => match us, hl with | [_, _], _ => rfl
theorem fm__law_plus : FMono f_plus := fm2
theorem ln__law_plus : ∀ ds Q, f_plus ds Q → ds.length = (["_law_u", "_law_v"] : List Str).length := ln2
theorem ok__law_plus {P : Program} {w : World} {K : Fg} {mg : Str → Option Value} {base : Heap} (T : Tx K mg) : FnOk P w K mg base CX0 2 (He.fAd K ("_law_plus", none)) T.fd__law_plus ["_law_u", "_law_v"] (spP K f_plus) := by
  refine ok_pure T.F__law_plus sc__law_plus fm__law_plus ln__law_plus (fun cdv A outer s H E Z hr => ⟨_, (dss_one (ds_ret (de_call (ok__law_low T) fm__law_low (hr.mono (by decide)) rfl T.g__law_low T.F__law_low.kp (b__law_low T) .nil (fun _ => .nil) (da_cons (de_op od_add (de_op od_mul (de_ix (de_var 0) de_int) (de_ix (de_var 1) de_int)) (de_op od_mul (de_ix (de_var 1) de_int) (de_ix (de_var 0) de_int))) (da_cons (de_op od_mul (de_ix (de_var 0) de_int) (de_ix (de_var 1) de_int)) da_nil))))), fun ds Q h => ?_⟩)
  obtain ⟨u, v, rfl, ⟨hu, hv⟩, hq⟩ := h
  walk_at "dl"
  have p1 := u.den_pos
  have p2 := v.den_pos
  exact ⟨mul_nd hu hv (by decide), mul_nd hv hu (by decide), mul_dd hu hv (by decide), Int.mul_pos (by omega) (by omega), dd_lt hu hv (by decide), hq⟩
theorem b__law_times {K : Fg} {mg : Str → Option Value} (T : Tx K mg) : Binds K T.fd__law_times ["_law_u", "_law_v"] [] := T.F__law_times.bindsN fun _ _ _ _ _ _ us hl => match us, hl with | [_, _], _ => rfl
theorem fm__law_times : FMono f_times := fm2
theorem ln__law_times : ∀ ds Q, f_times ds Q → ds.length = (["_law_u", "_law_v"] : List Str).length := ln2
theorem ok__law_times {P : Program} {w : World} {K : Fg} {mg : Str → Option Value} {base : Heap} (T : Tx K mg) : FnOk P w K mg base CX0 2 (He.fAd K ("_law_times", none)) T.fd__law_times ["_law_u", "_law_v"] (spP K f_times) := by
  refine ok_pure T.F__law_times sc__law_times fm__law_times ln__law_times (fun cdv A outer s H E Z hr => ⟨_, (dss_one (ds_ret (de_call (ok__law_low T) fm__law_low (hr.mono (by decide)) rfl T.g__law_low T.F__law_low.kp (b__law_low T) .nil (fun _ => .nil) (da_cons (de_op od_mul (de_ix (de_var 0) de_int) (de_ix (de_var 1) de_int)) (da_cons (de_op od_mul (de_ix (de_var 0) de_int) (de_ix (de_var 1) de_int)) da_nil))))), fun ds Q h => ?_⟩)
  obtain ⟨u, v, rfl, ⟨hu, hv⟩, hq⟩ := h
  walk_at "dl"
  have p1 := u.den_pos
  have p2 := v.den_pos
  exact ⟨mul_nn hu hv (by decide), mul_dd hu hv (by decide), Int.mul_pos (by omega) (by omega), dd_lt hu hv (by decide), hq⟩
theorem b__law_heading {K : Fg} {mg : Str → Option Value} (T : Tx K mg) : Binds K T.fd__law_heading ["_law_bag_here", "_law_many"] [] := T.F__law_heading.bindsN fun _ _ _ _ _ _ us hl => match us, hl with | [_, _], _ => rfl
theorem bm__law_heading : BMono f_headb := bm1
theorem ln__law_heading : ∀ xs ds Q, f_headb xs ds Q → ds.length + 1 = (["_law_bag_here", "_law_many"] : List Str).length := bl1
theorem ok__law_heading {P : Program} {w : World} {K : Fg} {mg : Str → Option Value} {base : Heap} (T : Tx K mg) : FnOk P w K mg base CX0 2 (He.fAd K ("_law_heading", none)) T.fd__law_heading ["_law_bag_here", "_law_many"] (spB K f_headb) := by
  refine ok_bag T.F__law_heading sc__law_heading bm__law_heading ln__law_heading (fun cdv A outer s H E Z hr => ⟨_, (dss_cons (ds_set (i := 2) sc__law_heading.nd rfl (by first | exact Or.inl rfl | exact Or.inr rfl) (Do.sh (do_lst (da_cons (de_tup (da_cons de_int (da_cons de_int da_nil))) (da_cons (de_tup (da_cons de_int (da_cons de_int da_nil))) (da_cons (de_tup (da_cons de_int (da_cons de_int da_nil))) (da_cons (de_tup (da_cons de_int (da_cons (de_neg de_int) da_nil))) (da_cons (de_tup (da_cons de_int (da_cons de_int da_nil))) (da_cons (de_tup (da_cons de_int (da_cons (de_neg de_int) da_nil))) (da_cons (de_tup (da_cons de_int (da_cons de_int da_nil))) (da_cons (de_tup (da_cons de_int (da_cons (de_neg de_int) da_nil))) (da_cons (de_tup (da_cons de_int (da_cons de_int da_nil))) (da_cons (de_tup (da_cons de_int (da_cons (de_neg de_int) da_nil))) (da_cons (de_tup (da_cons de_int (da_cons de_int da_nil))) (da_cons (de_tup (da_cons de_int (da_cons de_int da_nil))) da_nil)))))))))))))))
    (dss_cons (ds_set (i := 2) sc__law_heading.nd rfl (by first | exact Or.inl rfl | exact Or.inr rfl) (de_op od_addA (de_var 2) (Do.sh (do_lst (da_cons (de_tup (da_cons de_int (da_cons de_int da_nil))) (da_cons (de_tup (da_cons de_int (da_cons de_int da_nil))) (da_cons (de_tup (da_cons de_int (da_cons (de_neg de_int) da_nil))) (da_cons (de_tup (da_cons de_int (da_cons (de_neg de_int) da_nil))) da_nil))))))))
    (dss_cons (ds_asg (de_ix (de_var 2) (de_callB 0 (ok__law_take T) bm__law_take (hr.mono (by decide)) rfl T.g__law_take T.F__law_take.kp (b__law_take T) (da_cons (de_var 1) da_nil))) (dg_tup (n := 2) rfl (dgs_cons (dg_name (i := 4) sc__law_heading.nd rfl (by first | exact Or.inl rfl | exact Or.inr rfl)) (dgs_cons (dg_name (i := 5) sc__law_heading.nd rfl (by first | exact Or.inl rfl | exact Or.inr rfl)) dgs_nil))))
    (dss_cons (ds_set (i := 3) sc__law_heading.nd rfl (by first | exact Or.inl rfl | exact Or.inr rfl) (de_op od_add (de_op od_mul (de_var 4) (de_var 4)) (de_op od_mul (de_var 5) (de_var 5))))
    (dss_one (ds_ret (de_tup (da_cons (de_call (ok__law_low T) fm__law_low (hr.mono (by decide)) rfl T.g__law_low T.F__law_low.kp (b__law_low T) .nil (fun _ => .nil) (da_cons (de_op od_sub (de_op od_mul (de_var 5) (de_var 5)) (de_op od_mul (de_var 4) (de_var 4))) (da_cons (de_var 3) da_nil))) (da_cons (de_call (ok__law_low T) fm__law_low (hr.mono (by decide)) rfl T.g__law_low T.F__law_low.kp (b__law_low T) .nil (fun _ => .nil) (da_cons (de_op od_mul (de_op od_mul de_int (de_var 4)) (de_var 5)) (da_cons (de_var 3) da_nil))) da_nil))))))))), fun xs ds Q h => ?_⟩)
  obtain ⟨n, m, hb, hn, rfl, hm, hq⟩ := h
  have hn' : n + 1 ≤ 1000000 := hn
  refine seq_op (fun δ => δ = [some (Sl.ow true xs), some (.sh (.int m)), some (.sh (.list ((hpairs.take 12).map DL.prD))), none, none, none]) ?_ ?_
  · intro J' hJ
    walk_at "dl"
    exact hJ _ rfl
  rintro _ rfl
  generalize hg0 : (hpairs.take 12).map DL.prD = hs0
  refine seq_op (fun δ => δ = [some (Sl.ow true xs), some (.sh (.int m)), some (.sh (.list (hpairs.map DL.prD))), none, none, none]) ?_ ?_
  · intro J' hJ
    walk_at "dl"
    subst hg0
    exact ⟨by decide, hJ _ rfl⟩
  rintro _ rfl
  generalize hg : hpairs.map DL.prD = hs
  walk_at "dl"
  refine take_at hb (show _ ≤ 1000000 by omega) (by omega) (by omega) fun kd x1 p1 p2 hb => ?_
  walk_at "dl"
  obtain ⟨i, rfl⟩ := Int.eq_ofNat_of_zero_le p1
  obtain ⟨p, q, e, h0, h1, ⟨h2, h3⟩, hh⟩ := hpair_hd hm p2
  have e2 : atI hs (i : Int) = some (.tuple [.int p, .int q]) := by
    rw [← hg]
    exact atI_nat (j := i) (by rw [List.getElem?_map, e]; rfl)
  refine ⟨_, e2, ?_⟩
  walk_at "dl"
  have big : (p * p + q * q).natAbs < 2 ^ 9000 := Nat.lt_of_lt_of_le (show _ < 2 ^ 5 by omega) (Nat.pow_le_pow_right (by decide) (by decide))
  have mp : CMulW p p := mul64 (by omega) (by omega) (by omega) (by omega)
  have mq : CMulW q q := mul64 (by omega) (by omega) (by omega) (by omega)
  exact ⟨mp, mq, mq, mp, h0, big, mul64 (by omega) (by omega) (by omega) (by omega), mul64 (by omega) (by omega) (by omega) (by omega), h0, big, hq _ _ hh hb⟩
theorem b__law_small {K : Fg} {mg : Str → Option Value} (T : Tx K mg) : Binds K T.fd__law_small ["_law_bag_here"] [] := T.F__law_small.bindsN fun _ _ _ _ _ _ us hl => match us, hl with | [_], _ => rfl
theorem bm__law_small : BMono f_small := bm0
theorem ln__law_small : ∀ xs ds Q, f_small xs ds Q → ds.length + 1 = (["_law_bag_here"] : List Str).length := bl0
theorem ok__law_small {P : Program} {w : World} {K : Fg} {mg : Str → Option Value} {base : Heap} (T : Tx K mg) : FnOk P w K mg base CX0 2 (He.fAd K ("_law_small", none)) T.fd__law_small ["_law_bag_here"] (spB K f_small) := by
  refine ok_bag T.F__law_small sc__law_small bm__law_small ln__law_small (fun cdv A outer s H E Z hr => ⟨_, (dss_cons (ds_set (i := 1) sc__law_small.nd rfl (by first | exact Or.inl rfl | exact Or.inr rfl) (de_ix (Do.sh (do_lst (da_cons de_int (da_cons de_int (da_cons (de_op od_powB de_int de_int) da_nil))))) (de_callB 0 (ok__law_take T) bm__law_take (hr.mono (by decide)) rfl T.g__law_take T.F__law_take.kp (b__law_take T) (da_cons de_int da_nil))))
    (dss_one (ds_ret (de_call (ok__law_low T) fm__law_low (hr.mono (by decide)) rfl T.g__law_low T.F__law_low.kp (b__law_low T) .nil (fun _ => .nil) (da_cons (de_op od_add de_int (de_callB 0 (ok__law_take T) bm__law_take (hr.mono (by decide)) rfl T.g__law_take T.F__law_take.kp (b__law_take T) (da_cons (de_var 1) da_nil))) (da_cons (de_op od_add de_int (de_callB 0 (ok__law_take T) bm__law_take (hr.mono (by decide)) rfl T.g__law_take T.F__law_take.kp (b__law_take T) (da_cons (de_ix (Do.sh (do_lst (da_cons de_int (da_cons de_int (da_cons (de_op od_powB de_int de_int) da_nil))))) (de_callB 0 (ok__law_take T) bm__law_take (hr.mono (by decide)) rfl T.g__law_take T.F__law_take.kp (b__law_take T) (da_cons de_int da_nil))) da_nil))) da_nil)))))), fun xs ds Q h => ?_⟩)
  obtain ⟨n, hb, hn, rfl, hq⟩ := h
  have hn' : n + 4 ≤ 1000000 := hn
  walk_at "dl"
  have w1 : CPowB 10 7 := powB64 (by omega) (by omega) (by omega) (by omega)
  have e7 : (10 : Int) ^ Int.toNat 7 = 10000000 := rfl
  rw [e7]
  refine ⟨w1, ?_⟩
  refine take_at hb (show _ ≤ 1000000 by omega) (by omega) (by decide) fun d1 x1 p1 p2 hb => ?_
  walk_at "dl"
  obtain ⟨z1, hz1, ez1⟩ := pick3 (a := 9) (b := 40) (c := 10000000) p1 p2
  refine ⟨_, ez1, ?_⟩
  refine take_at hb (show _ ≤ 1000000 by omega) (by omega) (by omega) fun d2 x2 p3 p4 hb => ?_
  walk_at "dl"
  refine ⟨w1, ?_⟩
  refine take_at hb (show _ ≤ 1000000 by omega) (by omega) (by decide) fun d3 x3 p5 p6 hb => ?_
  walk_at "dl"
  obtain ⟨z2, hz2, ez2⟩ := pick3 (a := 4) (b := 9) (c := 10000000) p5 p6
  refine ⟨_, ez2, ?_⟩
  refine take_at hb (show _ ≤ 1000000 by omega) (by omega) (by omega) fun d4 x4 p7 p8 hb => ?_
  walk_at "dl"
  exact ⟨by omega, Nat.lt_of_lt_of_le (show _ < 2 ^ 40 by omega) (Nat.pow_le_pow_right (by decide) (by decide)), hq _ _ ⟨dI_pos (by omega) (by omega), bd_divInt (n := 40) (show _ < 1099511627776 by omega) (show _ < 1099511627776 by omega) (by omega)⟩ hb⟩
theorem b__law_just {K : Fg} {mg : Str → Option Value} (T : Tx K mg) : Binds K T.fd__law_just ["_law_bag_here", "_law_number"] [] := T.F__law_just.bindsN fun _ _ _ _ _ _ us hl => match us, hl with | [_, _], _ => rfl
theorem bm__law_just : BMono f_just := bm1
theorem ln__law_just : ∀ xs ds Q, f_just xs ds Q → ds.length + 1 = (["_law_bag_here", "_law_number"] : List Str).length := bl1
theorem ok__law_just {P : Program} {w : World} {K : Fg} {mg : Str → Option Value} {base : Heap} (T : Tx K mg) : FnOk P w K mg base CX0 2 (He.fAd K ("_law_just", none)) T.fd__law_just ["_law_bag_here", "_law_number"] (spB K f_just) := by
  refine ok_bag T.F__law_just sc__law_just bm__law_just ln__law_just (fun cdv A outer s H E Z hr => ⟨_, (dss_cons (ds_set (i := 2) sc__law_just.nd rfl (by first | exact Or.inl rfl | exact Or.inr rfl) (de_ix (Do.sh (do_lst (da_cons de_int (da_cons (de_neg de_int) (da_cons de_int da_nil))))) (de_callB 0 (ok__law_take T) bm__law_take (hr.mono (by decide)) rfl T.g__law_take T.F__law_take.kp (b__law_take T) (da_cons de_int da_nil))))
    (dss_one (ds_ret (de_call (ok__law_low T) fm__law_low (hr.mono (by decide)) rfl T.g__law_low T.F__law_low.kp (b__law_low T) .nil (fun _ => .nil) (da_cons (de_op od_add (de_op od_mul (de_ix (de_var 1) de_int) de_int) (de_var 2)) (da_cons (de_op od_mul (de_ix (de_var 1) de_int) de_int) da_nil)))))), fun xs ds Q h => ?_⟩)
  obtain ⟨n, u, hb, hn, rfl, ⟨hu, hu2⟩, hq⟩ := h
  have hn' : n + 1 ≤ 1000000 := hn
  have un : u.num.natAbs < 1099511627776 := hu2.1
  have ud : u.den < 1099511627776 := hu2.2
  have u0 : 0 < u.num := num_pos0 hu
  have ud0 := u.den_pos
  walk_at "dl"
  refine take_at hb (show _ ≤ 1000000 by omega) (by omega) (by decide) fun d1 x1 p1 p2 hb => ?_
  walk_at "dl"
  obtain ⟨z1, hz1, ez1⟩ := pick3 (a := 0) (b := -1) (c := 1) p1 p2
  refine ⟨_, ez1, mul64 (by omega) (by omega) (by omega) (by omega), ?_⟩
  walk_at "dl"
  exact ⟨mul64 (by omega) (by omega) (by omega) (by omega), by omega, Nat.lt_of_lt_of_le (show _ < 2 ^ 60 by omega) (Nat.pow_le_pow_right (by decide) (by decide)), hq _ _ ⟨dI_pos (by omega) (by omega), bd_divInt (n := 60) (show _ < 1152921504606846976 by omega) (show _ < 1152921504606846976 by omega) (by omega)⟩ hb⟩
theorem b__law_sizes {K : Fg} {mg : Str → Option Value} (T : Tx K mg) : Binds K T.fd__law_sizes ["_law_bag_here"] [] := T.F__law_sizes.bindsN fun _ _ _ _ _ _ us hl => match us, hl with | [_], _ => rfl
theorem bm__law_sizes : BMono f_sizes := bm0
theorem ln__law_sizes : ∀ xs ds Q, f_sizes xs ds Q → ds.length + 1 = (["_law_bag_here"] : List Str).length := bl0
theorem ok__law_sizes {P : Program} {w : World} {K : Fg} {mg : Str → Option Value} {base : Heap} (T : Tx K mg) : FnOk P w K mg base CX0 2 (He.fAd K ("_law_sizes", none)) T.fd__law_sizes ["_law_bag_here"] (spB K f_sizes) := by
  refine ok_bag T.F__law_sizes sc__law_sizes bm__law_sizes ln__law_sizes (fun cdv A outer s H E Z hr => ⟨_, (dss_one (ds_ret (de_ix (Do.sh (do_lst (da_cons (de_tup (da_cons de_int (da_cons de_int da_nil))) (da_cons (de_tup (da_cons de_int (da_cons de_int da_nil))) (da_cons (de_tup (da_cons de_int (da_cons de_int da_nil))) (da_cons (de_tup (da_cons de_int (da_cons de_int da_nil))) (da_cons (de_tup (da_cons de_int (da_cons de_int da_nil))) (da_cons (de_tup (da_cons de_int (da_cons de_int da_nil))) (da_cons (de_tup (da_cons de_int (da_cons de_int da_nil))) (da_cons (de_tup (da_cons de_int (da_cons de_int da_nil))) da_nil)))))))))) (de_callB 0 (ok__law_take T) bm__law_take (hr.mono (by decide)) rfl T.g__law_take T.F__law_take.kp (b__law_take T) (da_cons de_int da_nil))))), fun xs ds Q h => ?_⟩)
  obtain ⟨n, hb, hn, rfl, hq⟩ := h
  have hn' : n + 1 ≤ 1000000 := hn
  walk_at "dl"
  refine take_at hb (show _ ≤ 1000000 by omega) (by omega) (by decide) fun d x1 p1 p2 hb => ?_
  walk_at "dl"
  rcases (show d = 0 ∨ d = 1 ∨ d = 2 ∨ d = 3 ∨ d = 4 ∨ d = 5 ∨ d = 6 ∨ d = 7 by omega) with rfl | rfl | rfl | rfl | rfl | rfl | rfl | rfl
  · exact ⟨_, rfl, hq (12, 40) _ (by decide) hb⟩
  · exact ⟨_, rfl, hq (12, 40) _ (by decide) hb⟩
  · exact ⟨_, rfl, hq (12, 6) _ (by decide) hb⟩
  · exact ⟨_, rfl, hq (12, 6) _ (by decide) hb⟩
  · exact ⟨_, rfl, hq (6, 3) _ (by decide) hb⟩
  · exact ⟨_, rfl, hq (25, 20) _ (by decide) hb⟩
  · exact ⟨_, rfl, hq (60, 40) _ (by decide) hb⟩
  · exact ⟨_, rfl, hq (300, 8) _ (by decide) hb⟩
theorem b_plus {K : Fg} {mg : Str → Option Value} (T : Tx K mg) : Binds K T.fd_plus ["u", "v"] [] := T.F_plus.bindsN fun _ _ _ _ _ _ us hl => match us, hl with | [_, _], _ => rfl
theorem fm_plus : FMono f_plus := fm2
theorem ln_plus : ∀ ds Q, f_plus ds Q → ds.length = (["u", "v"] : List Str).length := ln2
theorem ok_plus {P : Program} {w : World} {K : Fg} {mg : Str → Option Value} {base : Heap} (T : Tx K mg) : FnOk P w K mg base CX0 3 (He.fAd K ("plus", none)) T.fd_plus ["u", "v"] (spP K f_plus) := by
  refine ok_pure T.F_plus sc_plus fm_plus ln_plus (fun cdv A outer s H E Z hr => ⟨_, (dss_one (ds_ret (de_call (ok_ratio T) fm_ratio (hr.mono (by decide)) rfl T.g_ratio T.F_ratio.kp (b_ratio_2 T).2 (b_ratio_2 T).1 (dd_ratio_2) (da_cons (de_op od_add (de_op od_mul (de_ix (de_var 0) de_int) (de_ix (de_var 1) de_int)) (de_op od_mul (de_ix (de_var 1) de_int) (de_ix (de_var 0) de_int))) (da_cons (de_op od_mul (de_ix (de_var 0) de_int) (de_ix (de_var 1) de_int)) da_nil))))), fun ds Q h => ?_⟩)
  obtain ⟨u, v, rfl, ⟨hu, hv⟩, hq⟩ := h
  walk_at "dl"
  exact ⟨mul_nd hu hv (by decide), mul_nd hv hu (by decide), mul_dd hu hv (by decide), den_mul_ne u v, dd_lt hu hv (by decide), hq⟩
theorem b_times {K : Fg} {mg : Str → Option Value} (T : Tx K mg) : Binds K T.fd_times ["u", "v"] [] := T.F_times.bindsN fun _ _ _ _ _ _ us hl => match us, hl with | [_, _], _ => rfl
theorem fm_times : FMono f_times := fm2
theorem ln_times : ∀ ds Q, f_times ds Q → ds.length = (["u", "v"] : List Str).length := ln2
theorem ok_times {P : Program} {w : World} {K : Fg} {mg : Str → Option Value} {base : Heap} (T : Tx K mg) : FnOk P w K mg base CX0 3 (He.fAd K ("times", none)) T.fd_times ["u", "v"] (spP K f_times) := by
  refine ok_pure T.F_times sc_times fm_times ln_times (fun cdv A outer s H E Z hr => ⟨_, (dss_one (ds_ret (de_call (ok_ratio T) fm_ratio (hr.mono (by decide)) rfl T.g_ratio T.F_ratio.kp (b_ratio_2 T).2 (b_ratio_2 T).1 (dd_ratio_2) (da_cons (de_op od_mul (de_ix (de_var 0) de_int) (de_ix (de_var 1) de_int)) (da_cons (de_op od_mul (de_ix (de_var 0) de_int) (de_ix (de_var 1) de_int)) da_nil))))), fun ds Q h => ?_⟩)
  obtain ⟨u, v, rfl, ⟨hu, hv⟩, hq⟩ := h
  walk_at "dl"
  exact ⟨mul_nn hu hv (by decide), mul_dd hu hv (by decide), den_mul_ne u v, dd_lt hu hv (by decide), hq⟩
theorem b_over {K : Fg} {mg : Str → Option Value} (T : Tx K mg) : Binds K T.fd_over ["u", "v"] [] := T.F_over.bindsN fun _ _ _ _ _ _ us hl => match us, hl with | [_, _], _ => rfl
theorem fm_over : FMono f_over := fm2
theorem ln_over : ∀ ds Q, f_over ds Q → ds.length = (["u", "v"] : List Str).length := ln2
theorem ok_over {P : Program} {w : World} {K : Fg} {mg : Str → Option Value} {base : Heap} (T : Tx K mg) : FnOk P w K mg base CX0 3 (He.fAd K ("over", none)) T.fd_over ["u", "v"] (spP K f_over) := by
  refine ok_pure T.F_over sc_over fm_over ln_over (fun cdv A outer s H E Z hr => ⟨_, (dss_one (ds_ret (de_call (ok_ratio T) fm_ratio (hr.mono (by decide)) rfl T.g_ratio T.F_ratio.kp (b_ratio_2 T).2 (b_ratio_2 T).1 (dd_ratio_2) (da_cons (de_op od_mul (de_ix (de_var 0) de_int) (de_ix (de_var 1) de_int)) (da_cons (de_op od_mul (de_ix (de_var 0) de_int) (de_ix (de_var 1) de_int)) da_nil))))), fun ds Q h => ?_⟩)
  obtain ⟨u, v, rfl, ⟨h0, hu, hv⟩, hq⟩ := h
  walk_at "dl"
  exact ⟨mul_nd hu hv (by decide), mul_dn hu hv (by decide), Int.mul_ne_zero (den_ne u) (num_ne h0), dn_lt hu hv (by decide), hq⟩
theorem b__law_turned {K : Fg} {mg : Str → Option Value} (T : Tx K mg) : Binds K T.fd__law_turned ["_law_place", "_law_by", "_law_way_here"] [] := T.F__law_turned.bindsN fun _ _ _ _ _ _ us hl => match us, hl with | [_, _, _], _ => rfl
theorem fm__law_turned : FMono f_turn3 := fm3
theorem ln__law_turned : ∀ ds Q, f_turn3 ds Q → ds.length = (["_law_place", "_law_by", "_law_way_here"] : List Str).length := ln3
theorem ok__law_turned {P : Program} {w : World} {K : Fg} {mg : Str → Option Value} {base : Heap} (T : Tx K mg) : FnOk P w K mg base CX0 3 (He.fAd K ("_law_turned", none)) T.fd__law_turned ["_law_place", "_law_by", "_law_way_here"] (spP K f_turn3) := by
  refine ok_pure T.F__law_turned sc__law_turned fm__law_turned ln__law_turned (fun cdv A outer s H E Z hr => ⟨_, (dss_cons (ds_par (i := 4) (j := 5) rfl sc__law_turned.nd rfl rfl (by decide) rfl rfl (da_cons (de_ix (de_var 1) de_int) (da_cons (de_tup (da_cons (de_op od_mul (de_var 2) (de_ix (de_ix (de_var 1) de_int) de_int)) (da_cons (de_ix (de_ix (de_var 1) de_int) de_int) da_nil))) da_nil)) (fun _ h => ps_par rfl sc__law_turned.nd rfl rfl (by decide) rfl rfl h (by rfl)))
    (dss_cons (ds_set (i := 3) sc__law_turned.nd rfl (by first | exact Or.inl rfl | exact Or.inr rfl) (de_call (ok__law_times T) fm__law_times (hr.mono (by decide)) rfl T.g__law_times T.F__law_times.kp (b__law_times T) .nil (fun _ => .nil) (da_cons (de_ix (de_var 0) de_int) (da_cons (de_var 5) da_nil))))
    (dss_one (ds_ret (de_tup (da_cons (de_call (ok__law_plus T) fm__law_plus (hr.mono (by decide)) rfl T.g__law_plus T.F__law_plus.kp (b__law_plus T) .nil (fun _ => .nil) (da_cons (de_call (ok__law_times T) fm__law_times (hr.mono (by decide)) rfl T.g__law_times T.F__law_times.kp (b__law_times T) .nil (fun _ => .nil) (da_cons (de_ix (de_var 0) de_int) (da_cons (de_var 4) da_nil))) (da_cons (de_tup (da_cons (de_op od_sub de_int (de_ix (de_var 3) de_int)) (da_cons (de_ix (de_var 3) de_int) da_nil))) da_nil))) (da_cons (de_call (ok__law_plus T) fm__law_plus (hr.mono (by decide)) rfl T.g__law_plus T.F__law_plus.kp (b__law_plus T) .nil (fun _ => .nil) (da_cons (de_call (ok__law_times T) fm__law_times (hr.mono (by decide)) rfl T.g__law_times T.F__law_times.kp (b__law_times T) .nil (fun _ => .nil) (da_cons (de_ix (de_var 0) de_int) (da_cons (de_var 5) da_nil))) (da_cons (de_call (ok__law_times T) fm__law_times (hr.mono (by decide)) rfl T.g__law_times T.F__law_times.kp (b__law_times T) .nil (fun _ => .nil) (da_cons (de_ix (de_var 0) de_int) (da_cons (de_var 4) da_nil))) da_nil))) da_nil))))))), fun ds Q h => ?_⟩)
  obtain ⟨⟨a, b⟩, ⟨c, d⟩, w, rfl, ⟨⟨h1, h2⟩, ⟨h3, h4⟩, hw⟩, hq⟩ := h
  simp only [plD] at h1 h2 h3 h4 hq ⊢
  walk_at "dl"
  have hs : Bd 400 ((w : Rat) * d) := by
    rcases hw with rfl | rfl
    · rw [show (((1 : Int) : Rat)) = 1 from rfl, Rat.one_mul]
      exact h4
    · rw [show (((-1 : Int) : Rat)) = -1 from rfl, show (-1 : Rat) * d = -d by grind]
      exact h4.neg
  refine ⟨mulW (a := 2) (b := 400) (by rcases hw with rfl | rfl <;> decide) h4.1 (by decide), ?_⟩
  rw [num_side hw]
  generalize (w : Rat) * d = s at *
  walk_at "dl"
  walk_at "sd"
  rw [show a * c + -(b * s) = a * c - b * s by grind]
  exact hq
theorem b__law_along {K : Fg} {mg : Str → Option Value} (T : Tx K mg) : Binds K T.fd__law_along ["_law_here", "_law_u", "_law_size"] [] := T.F__law_along.bindsN fun _ _ _ _ _ _ us hl => match us, hl with | [_, _, _], _ => rfl
theorem fm__law_along : FMono f_along := fm3
theorem ln__law_along : ∀ ds Q, f_along ds Q → ds.length = (["_law_here", "_law_u", "_law_size"] : List Str).length := ln3
theorem ok__law_along {P : Program} {w : World} {K : Fg} {mg : Str → Option Value} {base : Heap} (T : Tx K mg) : FnOk P w K mg base CX0 3 (He.fAd K ("_law_along", none)) T.fd__law_along ["_law_here", "_law_u", "_law_size"] (spP K f_along) := by
  refine ok_pure T.F__law_along sc__law_along fm__law_along ln__law_along (fun cdv A outer s H E Z hr => ⟨_, (dss_one (ds_ret (de_tup (da_cons (de_call (ok__law_plus T) fm__law_plus (hr.mono (by decide)) rfl T.g__law_plus T.F__law_plus.kp (b__law_plus T) .nil (fun _ => .nil) (da_cons (de_ix (de_var 0) de_int) (da_cons (de_call (ok__law_times T) fm__law_times (hr.mono (by decide)) rfl T.g__law_times T.F__law_times.kp (b__law_times T) .nil (fun _ => .nil) (da_cons (de_ix (de_var 1) de_int) (da_cons (de_var 2) da_nil))) da_nil))) (da_cons (de_call (ok__law_plus T) fm__law_plus (hr.mono (by decide)) rfl T.g__law_plus T.F__law_plus.kp (b__law_plus T) .nil (fun _ => .nil) (da_cons (de_ix (de_var 0) de_int) (da_cons (de_call (ok__law_times T) fm__law_times (hr.mono (by decide)) rfl T.g__law_times T.F__law_times.kp (b__law_times T) .nil (fun _ => .nil) (da_cons (de_ix (de_var 1) de_int) (da_cons (de_var 2) da_nil))) da_nil))) da_nil))))), fun ds Q h => ?_⟩)
  obtain ⟨⟨a, b⟩, ⟨c, d⟩, u, rfl, ⟨⟨h1, h2⟩, ⟨h3, h4⟩, h5⟩, hq⟩ := h
  simp only [plD] at h1 h2 h3 h4 hq ⊢
  walk_at "dl"
  walk_at "sd"
theorem b__law_entry_cap {K : Fg} {mg : Str → Option Value} (T : Tx K mg) : Binds K T.fd__law_entry_cap ["_law_entry", "_law_fact", "_law_drag"] [] := T.F__law_entry_cap.bindsN fun _ _ _ _ _ _ us hl => match us, hl with | [_, _, _], _ => rfl
theorem fm__law_entry_cap : FMono f_lcap := fm_lcap
theorem ln__law_entry_cap : ∀ ds Q, f_lcap ds Q → ds.length = (["_law_entry", "_law_fact", "_law_drag"] : List Str).length := ln_lcap
theorem ok__law_entry_cap {P : Program} {w : World} {K : Fg} {mg : Str → Option Value} {base : Heap} (T : Tx K mg) : FnOk P w K mg base CX0 3 (He.fAd K ("_law_entry_cap", none)) T.fd__law_entry_cap ["_law_entry", "_law_fact", "_law_drag"] (spP K f_lcap) := by
  refine ok_pure T.F__law_entry_cap sc__law_entry_cap fm__law_entry_cap ln__law_entry_cap (fun cdv A outer s H E Z hr => ⟨_, (dss_cons (ds_if (dt_cmp od_is (de_var 1) de_non)
    (dss_one (ds_ret de_int))
    dss_nil)
    (dss_cons (ds_if (dt_cmp (od_eq hr.units) (de_ix (de_ix (de_var 0) de_int) de_int) de_str)
    (dss_one (ds_ret (de_ix (de_var 0) de_int)))
    dss_nil)
    (dss_one (ds_ret (de_call (ok__law_gear T) fm__law_gear (hr.mono (by decide)) rfl T.g__law_gear T.F__law_gear.kp (b__law_gear T) .nil (fun _ => .nil) (da_cons (de_ix (de_var 0) de_int) (da_cons (de_tup (da_cons de_int (da_cons de_int da_nil))) (da_cons (de_call (ok__law_times T) fm__law_times (hr.mono (by decide)) rfl T.g__law_times T.F__law_times.kp (b__law_times T) .nil (fun _ => .nil) (da_cons (de_var 2) (da_cons (de_ix (de_var 1) de_int) da_nil))) da_nil)))))))), fun ds Q h => ?_⟩)
  obtain ⟨t, pl, rfl, ⟨ht, h0, hb⟩, hq⟩ := h
  obtain ⟨e, pace, num⟩ := t
  obtain ⟨he, hp, hn⟩ := ht
  rcases e with ⟨b, f⟩ | ⟨⟨b, f⟩ | ⟨b, f, o, w⟩, r⟩
  · simp only [etD, stD, faD]
    walk_at "dl"
    exact hq
  · simp only [etD, stD, cD, lineD, faD, isNone]
    walk_at "dl"
    exact hq
  · simp only [etD, stD, cD, arcD, faD, isNone]
    walk_at "dl"
    have r0 : 0 < r := he.1.2.2.1
    have hr : Bd 30 r := he.2.1
    refine ⟨hb.mono (by decide), hr.mono (by decide), hp.1, hp.2, Rat.mul_nonneg h0 (by grind), Bd.int (by decide) (by decide), (hb.mul hr).mono (by decide), ?_⟩
    rw [show (((1 : Int) : Rat)) = 1 from rfl]
    exact hq
theorem b__law_pull {K : Fg} {mg : Str → Option Value} (T : Tx K mg) : Binds K T.fd__law_pull ["_law_bag_here", "_law_entries", "_law_facts"] [] := T.F__law_pull.bindsN fun _ _ _ _ _ _ us hl => match us, hl with | [_, _, _], _ => rfl
theorem bm__law_pull : BMono f_pull := bm_pull
theorem ln__law_pull : ∀ xs ds Q, f_pull xs ds Q → ds.length + 1 = (["_law_bag_here", "_law_entries", "_law_facts"] : List Str).length := bl_pull
theorem ok__law_pull {P : Program} {w : World} {K : Fg} {mg : Str → Option Value} {base : Heap} (T : Tx K mg) : FnOk P w K mg base CX0 3 (He.fAd K ("_law_pull", none)) T.fd__law_pull ["_law_bag_here", "_law_entries", "_law_facts"] (spB K f_pull) := by
  refine ok_bag T.F__law_pull sc__law_pull bm__law_pull ln__law_pull (fun cdv A outer s H E Z hr => ⟨_, (dss_cons (ds_setLc (i := 3) [("_law_entry", 6), ("_law_fact", 7)] rfl sc__law_pull.nd rfl rfl (sw_true rfl rfl rfl (by decide +kernel)) (di_zip rfl T.m_zip (da_cons (de_var 1) (da_cons (de_var 2) da_nil))) (blkOk_by (own := [("_law_entry", 6), ("_law_fact", 7)]) (N := ["_law_bag_here", "_law_entries", "_law_facts", "_law_radii", "_law_radius", "_law_gear_here", "_law_entry", "_law_fact"]) (sc := defScope s__law_pull) (by decide +kernel)) (fun _ _ _ _ _ _ => (dg_tup (n := 2) rfl (dgs_cons (dg_name (i := 6) sc__law_pull.nd rfl (by first | exact Or.inl rfl | exact Or.inr rfl)) (dgs_cons (dg_name (i := 7) sc__law_pull.nd rfl (by first | exact Or.inl rfl | exact Or.inr rfl)) dgs_nil)))) (fun _ _ _ _ _ _ => dts_one (dt_cmp (od_eq hr.units) (de_ix (de_ix (de_var 6) de_int) de_int) de_str)) (fun _ _ _ _ _ _ => (de_ix (de_var 7) de_int)))
    (dss_cons (ds_if (Dw.pt (dw_and (dt_cmp (od_ne hr.units) (de_var 3) (Do.sh (do_lst da_nil))) (dw_and1 (dt_cmp (od_eq hr.units) (de_callB 0 (ok__law_take T) bm__law_take (hr.mono (by decide)) rfl T.g__law_take T.F__law_take.kp (b__law_take T) (da_cons de_int da_nil)) de_int))))
    (dss_cons (ds_set (i := 4) sc__law_pull.nd rfl (by first | exact Or.inl rfl | exact Or.inr rfl) (de_ix (de_var 3) (de_callB 0 (ok__law_take T) bm__law_take (hr.mono (by decide)) rfl T.g__law_take T.F__law_take.kp (b__law_take T) (da_cons (de_b cd_len rfl T.m_len bb_len (da_cons (de_var 3) da_nil)) da_nil))))
    (dss_cons (ds_set (i := 5) sc__law_pull.nd rfl (by first | exact Or.inl rfl | exact Or.inr rfl) (de_op od_add de_int (de_callB 0 (ok__law_take T) bm__law_take (hr.mono (by decide)) rfl T.g__law_take T.F__law_take.kp (b__law_take T) (da_cons de_int da_nil))))
    (dss_one (ds_ret (de_callB 0 (ok__law_just T) bm__law_just (hr.mono (by decide)) rfl T.g__law_just T.F__law_just.kp (b__law_just T) (da_cons (de_call (ok__law_low T) fm__law_low (hr.mono (by decide)) rfl T.g__law_low T.F__law_low.kp (b__law_low T) .nil (fun _ => .nil) (da_cons (de_op od_mul (de_op od_mul (de_var 5) (de_var 5)) (de_ix (de_var 4) de_int)) (da_cons (de_ix (de_var 4) de_int) da_nil))) da_nil))))))
    dss_nil)
    (dss_one (ds_ret (de_callB 0 (ok__law_small T) bm__law_small (hr.mono (by decide)) rfl T.g__law_small T.F__law_small.kp (b__law_small T) da_nil))))), fun xs ds Q h => ?_⟩)
  obtain ⟨n, ts, hb, hn, rfl, ⟨ht, hl⟩, hq⟩ := h
  have hn' : n + 10 ≤ 1000000 := hn
  refine seq_op (fun δ => ∃ rs : List Rat, δ = [some (Sl.ow true xs), some (Sl.sh (.list (ts.map etD))), some (Sl.sh (.list (ts.map fun t => faD t.e))), some (Sl.sh (.list (rs.map numD))), none, none, none, none] ∧ (∀ r ∈ rs, 0 < r ∧ Bd 9 r) ∧ rs.length ≤ 400) ?_ ?_
  · intro J' hJ
    simp only [dSet, dShare, dLc, iZp]
    walk_at "dl"
    refine lc_at (fun j acc δ => δ = [some (Sl.ow true xs), some (Sl.sh (.list (ts.map etD))), some (Sl.sh (.list (ts.map fun t => faD t.e))), none, none, none, none, none] ∧ ∃ rs : List Rat, acc = rs.map numD ∧ (∀ r ∈ rs, 0 < r ∧ Bd 9 r) ∧ rs.length ≤ j) _ ⟨rfl, [], rfl, (fun r z => nomatch z), Nat.le_refl _⟩ ?_ ?_
    · rintro U hU j d acc δ hj ⟨rfl, rs, rfl, hrs, hrl⟩
      have hj2 := get_lt hj
      rw [zipD_len, List.length_map, List.length_map, Nat.min_self] at hj2
      obtain ⟨t, et⟩ : ∃ t, ts[j]? = some t := ⟨_, List.getElem?_eq_getElem hj2⟩
      have hz := zipD_get (xs := ts.map etD) (ys := ts.map fun t => faD t.e) (i := j) (by rw [List.getElem?_map, et]; rfl) (by rw [List.getElem?_map, et]; rfl)
      rw [hz] at hj
      cases hj
      have hok := ht _ (List.mem_of_getElem? et)
      obtain ⟨e, pace, num⟩ := t
      obtain ⟨he, _, _⟩ := hok
      rcases e with ⟨b, f⟩ | ⟨⟨b, f⟩ | ⟨b, f, o, w⟩, r⟩
      · simp only [etD, stD, faD]
        walk_at "dl"
        exact hU _ _ _ ⟨rfl, rs, rfl, hrs, by omega⟩
      · simp only [etD, stD, cD, lineD, faD]
        walk_at "dl"
        exact hU _ _ _ ⟨rfl, rs, rfl, hrs, by omega⟩
      · simp only [etD, stD, cD, arcD, faD]
        walk_at "dl"
        have r0 : 0 < r := he.1.2.2.1
        have hr : Bd 9 r := he.2.1
        refine ⟨by rw [List.length_map]; omega, hU _ _ _ ⟨rfl, rs ++ [r], by rw [List.map_append]; rfl, ?_, by rw [List.length_append]; exact Nat.succ_le_succ hrl⟩⟩
        intro q hq'
        rcases List.mem_append.mp hq' with z | z
        · exact hrs q z
        · rw [List.mem_singleton.mp z]
          exact ⟨r0, hr⟩
    · rintro acc δ ⟨rfl, rs, rfl, hrs, hrl⟩
      rw [zipD_len, List.length_map, List.length_map, Nat.min_self] at hrl
      exact hJ _ ⟨rs, rfl, hrs, by omega⟩
  rintro _ ⟨rs, rfl, hrs, hrl⟩
  have small : ∀ (n' : Nat) (ys : List PyData), n' ≤ n + 6 → BagOk n' ys → f_small ys [] fun r xs' => Q (Res.d (asD r)) xs' := fun n' ys hn2 hb2 =>
    ⟨n', hb2, show _ ≤ 1000000 by omega, rfl, fun u xs' ⟨u1, u2⟩ hb3 => hq u xs' u1 (u2.mono (by decide)) (hb3.mono (by omega))⟩
  walk_at "dl"
  refine ⟨sh_nums rs hrs, rfl, ?_⟩
  cases rs with
  | nil => exact small n xs (by omega) hb
  | cons r0 rr =>
    show f_take xs [PyData.int 2] _
    refine take_at hb (show _ ≤ 1000000 by omega) (by omega) (by decide) fun d1 x1 p1 p2 hb => ?_
    walk_at "dl"
    cases hz : (d1 == 0)
    · exact small _ _ (by omega) hb
    · simp only []
      have hln : (List.map numD rr).length = rr.length := List.length_map _
      have hrl' : rr.length + 1 ≤ 400 := hrl
      rw [hln]
      refine take_at hb (show _ ≤ 1000000 by omega) (by omega) (show _ < 18446744073709551616 by omega) fun d2 x2 p3 p4 hb => ?_
      obtain ⟨z, ez, e2⟩ := atI_of (xs := (r0 :: rr).map numD) p3 (by rw [List.length_map]; exact p4)
      obtain ⟨q, rfl, eq, _⟩ := mget e2
      obtain ⟨q0, qb⟩ := hrs q (List.mem_of_getElem? eq)
      refine ⟨_, ez, ?_⟩
      refine take_at hb (show _ ≤ 1000000 by omega) (by omega) (by decide) fun d3 x3 p5 p6 hb => ?_
      walk_at "dl"
      have qn : q.num.natAbs < 512 := qb.1
      have qd : q.den < 512 := qb.2
      have q1 := num_pos0 q0
      have qd0 := q.den_pos
      have m1 := mul_in (a := 1 + d3) (b := 1 + d3) (A := 9) (B := 9) (by omega) (by omega) (by omega) (by omega)
      have m1' : 0 < (1 + d3) * (1 + d3) := Int.mul_pos (by omega) (by omega)
      have m2 := mul_in (a := (1 + d3) * (1 + d3)) (b := (q.den : Int)) (A := 81) (B := 512) (by omega) (by omega) (by omega) (by omega)
      have m2' : 0 < (1 + d3) * (1 + d3) * (q.den : Int) := Int.mul_pos m1' (by omega)
      refine ⟨mul64 (by omega) (by omega) (by omega) (by omega), mul64 (by omega) (by omega) (by omega) (by omega), q1, Nat.lt_of_lt_of_le (show _ < 2 ^ 9 by omega) (Nat.pow_le_pow_right (by decide) (by decide)), ?_⟩
      exact ⟨_, _, hb, show _ ≤ 1000000 by omega, rfl, ⟨dI_pos m2' q1, bd_divInt (n := 40) (show _ < 1099511627776 by omega) (show _ < 1099511627776 by omega) (by omega)⟩, fun v x4 ⟨v1, v2⟩ hb4 => hq v x4 v1 v2 (hb4.mono (by omega))⟩
theorem b__law_jolt {K : Fg} {mg : Str → Option Value} (T : Tx K mg) : Binds K T.fd__law_jolt ["_law_bag_here"] [] := T.F__law_jolt.bindsN fun _ _ _ _ _ _ us hl => match us, hl with | [_], _ => rfl
theorem bm__law_jolt : BMono f_joltb := bm0
theorem ln__law_jolt : ∀ xs ds Q, f_joltb xs ds Q → ds.length + 1 = (["_law_bag_here"] : List Str).length := bl0
theorem ok__law_jolt {P : Program} {w : World} {K : Fg} {mg : Str → Option Value} {base : Heap} (T : Tx K mg) : FnOk P w K mg base CX0 3 (He.fAd K ("_law_jolt", none)) T.fd__law_jolt ["_law_bag_here"] (spB K f_joltb) := by
  refine ok_bag T.F__law_jolt sc__law_jolt bm__law_jolt ln__law_jolt (fun cdv A outer s H E Z hr => ⟨_, (dss_cons (ds_if (dt_cmp (od_eq hr.units) (de_callB 0 (ok__law_take T) bm__law_take (hr.mono (by decide)) rfl T.g__law_take T.F__law_take.kp (b__law_take T) (da_cons de_int da_nil)) de_int)
    (dss_cons (ds_set (i := 1) sc__law_jolt.nd rfl (by first | exact Or.inl rfl | exact Or.inr rfl) (de_op od_add de_int (de_callB 0 (ok__law_take T) bm__law_take (hr.mono (by decide)) rfl T.g__law_take T.F__law_take.kp (b__law_take T) (da_cons de_int da_nil))))
    (dss_one (ds_ret (de_callB 0 (ok__law_just T) bm__law_just (hr.mono (by decide)) rfl T.g__law_just T.F__law_just.kp (b__law_just T) (da_cons (de_call (ok__law_low T) fm__law_low (hr.mono (by decide)) rfl T.g__law_low T.F__law_low.kp (b__law_low T) .nil (fun _ => .nil) (da_cons (de_op od_mul (de_var 1) (de_ix (Do.sh (do_lst (da_cons de_int (da_cons de_int (da_cons de_int da_nil))))) (de_callB 0 (ok__law_take T) bm__law_take (hr.mono (by decide)) rfl T.g__law_take T.F__law_take.kp (b__law_take T) (da_cons de_int da_nil)))) (da_cons de_int da_nil))) da_nil)))))
    dss_nil)
    (dss_one (ds_ret (de_callB 0 (ok__law_small T) bm__law_small (hr.mono (by decide)) rfl T.g__law_small T.F__law_small.kp (b__law_small T) da_nil)))), fun xs ds Q h => ?_⟩)
  obtain ⟨n, hb, hn, rfl, hq⟩ := h
  have hn' : n + 10 ≤ 1000000 := hn
  walk_at "dl"
  refine take_at hb (show _ ≤ 1000000 by omega) (by omega) (by decide) fun d1 x1 p1 p2 hb => ?_
  walk_at "dl"
  cases hz : (d1 == 0)
  · exact ⟨_, hb, show _ ≤ 1000000 by omega, rfl, fun u xs' ⟨u1, u2⟩ hb3 => hq u xs' ⟨u1, u2.mono (by decide)⟩ (hb3.mono (by omega))⟩
  · simp only []
    refine take_at hb (show _ ≤ 1000000 by omega) (by omega) (by decide) fun d2 x2 p3 p4 hb => ?_
    walk_at "dl"
    refine take_at hb (show _ ≤ 1000000 by omega) (by omega) (by decide) fun d3 x3 p5 p6 hb => ?_
    walk_at "dl"
    obtain ⟨z1, hz1, ez1⟩ := pick3 (a := 10) (b := 6) (c := 8) p5 p6
    refine ⟨_, ez1, ?_⟩
    have m1 : 0 < (1 + d2) * z1 := Int.mul_pos (by omega) (by omega)
    have m2 := mul_in (a := 1 + d2) (b := z1) (A := 9) (B := 10) (by omega) (by omega) (by omega) (by omega)
    walk_at "dl"
    refine ⟨mul64 (by omega) (by omega) (by omega) (by omega), by decide, Nat.lt_of_lt_of_le (show _ < 2 ^ 5 by decide) (Nat.pow_le_pow_right (by decide) (by decide)), ?_⟩
    exact ⟨_, _, hb, show _ ≤ 1000000 by omega, rfl, ⟨dI_pos m1 (by decide), bd_divInt (n := 40) (show _ < 1099511627776 by omega) (show _ < 1099511627776 by omega) (by omega)⟩, fun v x4 ⟨v1, v2⟩ hb4 => hq v x4 ⟨v1, v2⟩ (hb4.mono (by omega))⟩
theorem b_minus {K : Fg} {mg : Str → Option Value} (T : Tx K mg) : Binds K T.fd_minus ["u", "v"] [] := T.F_minus.bindsN fun _ _ _ _ _ _ us hl => match us, hl with | [_, _], _ => rfl
theorem fm_minus : FMono f_minus := fm2
theorem ln_minus : ∀ ds Q, f_minus ds Q → ds.length = (["u", "v"] : List Str).length := ln2
theorem ok_minus {P : Program} {w : World} {K : Fg} {mg : Str → Option Value} {base : Heap} (T : Tx K mg) : FnOk P w K mg base CX0 4 (He.fAd K ("minus", none)) T.fd_minus ["u", "v"] (spP K f_minus) := by
  refine ok_pure T.F_minus sc_minus fm_minus ln_minus (fun cdv A outer s H E Z hr => ⟨_, (dss_one (ds_ret (de_call (ok_plus T) fm_plus (hr.mono (by decide)) rfl T.g_plus T.F_plus.kp (b_plus T) .nil (fun _ => .nil) (da_cons (de_var 0) (da_cons (de_call (ok_opposite T) fm_opposite (hr.mono (by decide)) rfl T.g_opposite T.F_opposite.kp (b_opposite T) .nil (fun _ => .nil) (da_cons (de_var 1) da_nil)) da_nil))))), fun ds Q h => ?_⟩)
  obtain ⟨u, v, rfl, ⟨hu, hv⟩, hq⟩ := h
  walk_at "dl"
  rw [← Rat.sub_eq_add_neg]
  exact ⟨hu, hv.neg, hq⟩
theorem b_scaled {K : Fg} {mg : Str → Option Value} (T : Tx K mg) : Binds K T.fd_scaled ["place", "u"] [] := T.F_scaled.bindsN fun _ _ _ _ _ _ us hl => match us, hl with | [_, _], _ => rfl
theorem fm_scaled : FMono f_scaled := fm2
theorem ln_scaled : ∀ ds Q, f_scaled ds Q → ds.length = (["place", "u"] : List Str).length := ln2
theorem ok_scaled {P : Program} {w : World} {K : Fg} {mg : Str → Option Value} {base : Heap} (T : Tx K mg) : FnOk P w K mg base CX0 4 (He.fAd K ("scaled", none)) T.fd_scaled ["place", "u"] (spP K f_scaled) := by
  refine ok_pure T.F_scaled sc_scaled fm_scaled ln_scaled (fun cdv A outer s H E Z hr => ⟨_, (dss_one (ds_ret (de_tup (da_cons (de_call (ok_times T) fm_times (hr.mono (by decide)) rfl T.g_times T.F_times.kp (b_times T) .nil (fun _ => .nil) (da_cons (de_ix (de_var 0) de_int) (da_cons (de_var 1) da_nil))) (da_cons (de_call (ok_times T) fm_times (hr.mono (by decide)) rfl T.g_times T.F_times.kp (b_times T) .nil (fun _ => .nil) (da_cons (de_ix (de_var 0) de_int) (da_cons (de_var 1) da_nil))) da_nil))))), fun ds Q h => ?_⟩)
  obtain ⟨⟨a, b⟩, u, rfl, ⟨⟨h1, h2⟩, h3⟩, hq⟩ := h
  simp only [plD] at h1 h2 h3 hq ⊢
  walk_at "dl"
  walk_at "sd"
theorem b_dot {K : Fg} {mg : Str → Option Value} (T : Tx K mg) : Binds K T.fd_dot ["one", "other"] [] := T.F_dot.bindsN fun _ _ _ _ _ _ us hl => match us, hl with | [_, _], _ => rfl
theorem fm_dot : FMono f_dot := fm2
theorem ln_dot : ∀ ds Q, f_dot ds Q → ds.length = (["one", "other"] : List Str).length := ln2
theorem ok_dot {P : Program} {w : World} {K : Fg} {mg : Str → Option Value} {base : Heap} (T : Tx K mg) : FnOk P w K mg base CX0 4 (He.fAd K ("dot", none)) T.fd_dot ["one", "other"] (spP K f_dot) := by
  refine ok_pure T.F_dot sc_dot fm_dot ln_dot (fun cdv A outer s H E Z hr => ⟨_, (dss_one (ds_ret (de_call (ok_plus T) fm_plus (hr.mono (by decide)) rfl T.g_plus T.F_plus.kp (b_plus T) .nil (fun _ => .nil) (da_cons (de_call (ok_times T) fm_times (hr.mono (by decide)) rfl T.g_times T.F_times.kp (b_times T) .nil (fun _ => .nil) (da_cons (de_ix (de_var 0) de_int) (da_cons (de_ix (de_var 1) de_int) da_nil))) (da_cons (de_call (ok_times T) fm_times (hr.mono (by decide)) rfl T.g_times T.F_times.kp (b_times T) .nil (fun _ => .nil) (da_cons (de_ix (de_var 0) de_int) (da_cons (de_ix (de_var 1) de_int) da_nil))) da_nil))))), fun ds Q h => ?_⟩)
  obtain ⟨⟨a, b⟩, ⟨c, d⟩, rfl, ⟨⟨h1, h2⟩, h3, h4⟩, hq⟩ := h
  simp only [plD] at h1 h2 h3 h4 hq ⊢
  walk_at "dl"
  walk_at "sd"
theorem b_greatest_gear {K : Fg} {mg : Str → Option Value} (T : Tx K mg) : Binds K T.fd_greatest_gear ["most", "part", "bound"] [] := T.F_greatest_gear.bindsN fun _ _ _ _ _ _ us hl => match us, hl with | [_, _, _], _ => rfl
theorem fm_greatest_gear : FMono f_gear := fm3
theorem ln_greatest_gear : ∀ ds Q, f_gear ds Q → ds.length = (["most", "part", "bound"] : List Str).length := ln3
theorem ok_greatest_gear {P : Program} {w : World} {K : Fg} {mg : Str → Option Value} {base : Heap} (T : Tx K mg) : FnOk P w K mg base CX0 4 (He.fAd K ("greatest_gear", none)) T.fd_greatest_gear ["most", "part", "bound"] (spP K f_gear) := by
  refine ok_pure T.F_greatest_gear sc_greatest_gear fm_greatest_gear ln_greatest_gear (fun cdv A outer s H E Z hr => ⟨_, (dss_cons (ds_set (i := 3) sc_greatest_gear.nd rfl (by first | exact Or.inl rfl | exact Or.inr rfl) (de_var 0))
    (dss_cons (ds_while PassesOwn.never (dt_val (de_call (ok_is_below T) fm_is_below (hr.mono (by decide)) rfl T.g_is_below T.F_is_below.kp (b_is_below T) .nil (fun _ => .nil) (da_cons (de_var 2) (da_cons (de_call (ok_times T) fm_times (hr.mono (by decide)) rfl T.g_times T.F_times.kp (b_times T) .nil (fun _ => .nil) (da_cons (de_call (ok_ratio T) fm_ratio (hr.mono (by decide)) rfl T.g_ratio T.F_ratio.kp (b_ratio_1 T).2 (b_ratio_1 T).1 (dd_ratio_1) (da_cons (de_op od_mul (de_var 3) (de_var 3)) da_nil)) (da_cons (de_var 1) da_nil))) da_nil))))
    (dss_one (ds_aug (i := 3) sc_greatest_gear.nd rfl (by first | exact Or.inl rfl | exact Or.inr rfl) de_int ip_sub)))
    (dss_one (ds_ret (de_var 3))))), fun ds Q h => ?_⟩)
  obtain ⟨m, pt, bd, rfl, ⟨⟨h1, h2⟩, h3, h4, h5⟩, hq⟩ := h
  walk_at "dl"
  refine while_op (fun k δ => δ = [some (Sl.sh (PyData.int m)), some (Sl.sh (numD pt)), some (Sl.sh (numD bd)), some (Sl.sh (PyData.int (k : Int)))] ∧ k ≤ 9 ∧ gearN k pt bd = gearN m.toNat pt bd) ⟨m.toNat, by rw [Int.toNat_of_nonneg h1], by omega, rfl⟩ ?_
  rintro W hW k δ ⟨rfl, hk, he⟩
  walk_at "dl"
  have ek : (((k : Int) * (k : Int) : Int) : Rat) = (k : Rat) * (k : Rat) := by rw [Rat.intCast_mul]; rfl
  have ed : Rat.divInt ((k : Int) * (k : Int)) 1 = (((k : Int) * (k : Int) : Int) : Rat) := by rw [Rat.divInt_eq_div, show (((1 : Int) : Rat)) = 1 from rfl]; grind
  have k9 : (k : Int) * (k : Int) ≤ 81 := Int.mul_le_mul (a := (k : Int)) (b := (k : Int)) (c := 9) (d := 9) (by omega) (by omega) (by omega) (by omega)
  have k0 : 0 ≤ (k : Int) * (k : Int) := Int.mul_nonneg (by omega) (by omega)
  have bk : Bd 20 (((k : Int) * (k : Int) : Int) : Rat) := by
    rw [← ed]
    exact bd_divInt (n := 20) (show _ < 1048576 by omega) (show _ < 1048576 by omega) (by omega)
  refine ⟨mul64 (by omega) (by omega) (by omega) (by omega), by omega, Nat.lt_of_lt_of_le (show _ < 2 ^ 5 by decide) (Nat.pow_le_pow_right (by decide) (by decide)), bk.mono (by decide), h4.mono (by decide), h5.mono (by decide), (bk.mul h4).mono (by decide), ?_⟩
  rw [ek]
  by_cases h : bd < (k : Rat) * (k : Rat) * pt
  · simp only [h, decide_true]
    cases k with
    | zero =>
      exfalso
      have e0 : ((0 : Nat) : Rat) * ((0 : Nat) : Rat) * pt = 0 := by rw [show ((0 : Nat) : Rat) = 0 from rfl]; grind
      rw [e0] at h
      grind
    | succ j =>
      exact ⟨j, by omega, hW _ _ ⟨by rw [show (((j + 1 : Nat)) : Int) - 1 = (j : Int) by omega], by omega, by rw [← he, gear_miss h]⟩⟩
  · simp only [h, decide_false]
    have hq : Q (Res.d (PyData.int ((gearN m.toNat pt bd : Nat) : Int))) := hq
    rw [← he, gear_hit (by grind)] at hq
    exact hq
theorem b__law_step {K : Fg} {mg : Str → Option Value} (T : Tx K mg) : Binds K T.fd__law_step ["_law_bag_here", "_law_here", "_law_along_here", "_law_wide"] [] := T.F__law_step.bindsN fun _ _ _ _ _ _ us hl => match us, hl with | [_, _, _, _], _ => rfl
theorem bm__law_step : BMono f_stepb := bm_stepb
theorem ln__law_step : ∀ xs ds Q, f_stepb xs ds Q → ds.length + 1 = (["_law_bag_here", "_law_here", "_law_along_here", "_law_wide"] : List Str).length := bl_stepb
theorem ok__law_step {P : Program} {w : World} {K : Fg} {mg : Str → Option Value} {base : Heap} (T : Tx K mg) : FnOk P w K mg base CX0 4 (He.fAd K ("_law_step", none)) T.fd__law_step ["_law_bag_here", "_law_here", "_law_along_here", "_law_wide"] (spB K f_stepb) := by
  refine ok_bag T.F__law_step sc__law_step bm__law_step ln__law_step (fun cdv A outer s H E Z hr => ⟨_, (dss_cons (ds_set (i := 4) sc__law_step.nd rfl (by first | exact Or.inl rfl | exact Or.inr rfl) (de_callB 0 (ok__law_take T) bm__law_take (hr.mono (by decide)) rfl T.g__law_take T.F__law_take.kp (b__law_take T) (da_cons de_int da_nil)))
    (dss_cons (ds_set (i := 5) sc__law_step.nd rfl (by first | exact Or.inl rfl | exact Or.inr rfl) (de_call (ok__law_low T) fm__law_low (hr.mono (by decide)) rfl T.g__law_low T.F__law_low.kp (b__law_low T) .nil (fun _ => .nil) (da_cons (de_op od_add de_int (de_callB 0 (ok__law_take T) bm__law_take (hr.mono (by decide)) rfl T.g__law_take T.F__law_take.kp (b__law_take T) (da_cons (de_var 3) da_nil))) (da_cons (de_op od_add de_int (de_callB 0 (ok__law_take T) bm__law_take (hr.mono (by decide)) rfl T.g__law_take T.F__law_take.kp (b__law_take T) (da_cons de_int da_nil))) da_nil))))
    (dss_cons (ds_set (i := 6) sc__law_step.nd rfl (by first | exact Or.inl rfl | exact Or.inr rfl) (de_callB 0 (ok__law_heading T) bm__law_heading (hr.mono (by decide)) rfl T.g__law_heading T.F__law_heading.kp (b__law_heading T) (da_cons (de_ix (Do.sh (do_lst (da_cons de_int (da_cons de_int da_nil)))) (de_ty cd_int rfl T.m_int bt_int (da_cons (de_cmp od_gt (de_var 4) de_int) da_nil))) da_nil)))
    (dss_cons (ds_if (Dw.pt (dw_and (dt_cmp od_isnot (de_var 2) de_non) (dw_and (dt_cmp od_lt (de_ix (de_ix (de_var 2) de_int) de_int) (de_ix (Do.sh (do_lst (da_cons de_int (da_cons de_int da_nil)))) (de_ty cd_int rfl T.m_int bt_int (da_cons (de_cmp od_gt (de_var 4) de_int) da_nil)))) (dw_and1 (dt_cmp (od_eq hr.units) (de_callB 0 (ok__law_take T) bm__law_take (hr.mono (by decide)) rfl T.g__law_take T.F__law_take.kp (b__law_take T) (da_cons de_int da_nil)) de_int)))))
    (dss_cons (ds_set (i := 10) sc__law_step.nd rfl (by first | exact Or.inl rfl | exact Or.inr rfl) (de_op od_sub de_int (de_op od_mul de_int (de_ty cd_int rfl T.m_int bt_int (da_cons (de_cmp (od_eq hr.units) (de_callB 0 (ok__law_take T) bm__law_take (hr.mono (by decide)) rfl T.g__law_take T.F__law_take.kp (b__law_take T) (da_cons de_int da_nil)) de_int) da_nil)))))
    (dss_one (ds_set (i := 6) sc__law_step.nd rfl (by first | exact Or.inl rfl | exact Or.inr rfl) (de_tup (da_cons (de_tup (da_cons (de_op od_mul (de_var 10) (de_ix (de_ix (de_var 2) de_int) de_int)) (da_cons (de_ix (de_ix (de_var 2) de_int) de_int) da_nil))) (da_cons (de_tup (da_cons (de_op od_mul (de_var 10) (de_ix (de_ix (de_var 2) de_int) de_int)) (da_cons (de_ix (de_ix (de_var 2) de_int) de_int) da_nil))) da_nil))))))
    dss_nil)
    (dss_cons (ds_if (dt_cmp (od_eq hr.units) (de_var 4) de_int)
    (dss_one (ds_ret (de_tup (da_cons (de_tup (da_cons de_str (da_cons (de_var 1) (da_cons (de_call (ok__law_along T) fm__law_along (hr.mono (by decide)) rfl T.g__law_along T.F__law_along.kp (b__law_along T) .nil (fun _ => .nil) (da_cons (de_var 1) (da_cons (de_var 6) (da_cons (de_tup (da_cons (de_callB 0 (ok__law_take T) bm__law_take (hr.mono (by decide)) rfl T.g__law_take T.F__law_take.kp (b__law_take T) (da_cons de_int da_nil)) (da_cons de_int da_nil))) da_nil)))) da_nil)))) (da_cons de_non da_nil)))))
    dss_nil)
    (dss_cons (ds_if (dt_cmp od_lt (de_var 4) de_int)
    (dss_one (ds_ret (de_tup (da_cons (de_tup (da_cons de_str (da_cons (de_var 1) (da_cons (de_call (ok__law_along T) fm__law_along (hr.mono (by decide)) rfl T.g__law_along T.F__law_along.kp (b__law_along T) .nil (fun _ => .nil) (da_cons (de_var 1) (da_cons (de_var 6) (da_cons (de_var 5) da_nil)))) da_nil)))) (da_cons (de_tup (da_cons (de_var 5) (da_cons (de_var 6) (da_cons (de_var 6) da_nil)))) da_nil)))))
    dss_nil)
    (dss_cons (ds_par (i := 11) (j := 12) rfl sc__law_step.nd rfl rfl (by decide) rfl rfl (da_cons (de_op od_sub de_int (de_op od_mul de_int (de_callB 0 (ok__law_take T) bm__law_take (hr.mono (by decide)) rfl T.g__law_take T.F__law_take.kp (b__law_take T) (da_cons de_int da_nil)))) (da_cons (de_callB 0 (ok__law_heading T) bm__law_heading (hr.mono (by decide)) rfl T.g__law_heading T.F__law_heading.kp (b__law_heading T) (da_cons de_int da_nil)) da_nil)) (fun _ h => ps_par rfl sc__law_step.nd rfl rfl (by decide) rfl rfl h (by rfl)))
    (dss_cons (ds_set (i := 7) sc__law_step.nd rfl (by first | exact Or.inl rfl | exact Or.inr rfl) (de_tup (da_cons (de_tup (da_cons (de_op od_mul (de_var 11) (de_ix (de_ix (de_var 6) de_int) de_int)) (da_cons (de_ix (de_ix (de_var 6) de_int) de_int) da_nil))) (da_cons (de_tup (da_cons (de_op od_sub de_int (de_op od_mul (de_var 11) (de_ix (de_ix (de_var 6) de_int) de_int))) (da_cons (de_ix (de_ix (de_var 6) de_int) de_int) da_nil))) da_nil))))
    (dss_cons (ds_set (i := 8) sc__law_step.nd rfl (by first | exact Or.inl rfl | exact Or.inr rfl) (de_call (ok__law_along T) fm__law_along (hr.mono (by decide)) rfl T.g__law_along T.F__law_along.kp (b__law_along T) .nil (fun _ => .nil) (da_cons (de_var 1) (da_cons (de_var 7) (da_cons (de_tup (da_cons (de_op od_sub de_int (de_ix (de_var 5) de_int)) (da_cons (de_ix (de_var 5) de_int) da_nil))) da_nil)))))
    (dss_cons (ds_set (i := 9) sc__law_step.nd rfl (by first | exact Or.inl rfl | exact Or.inr rfl) (de_call (ok__law_along T) fm__law_along (hr.mono (by decide)) rfl T.g__law_along T.F__law_along.kp (b__law_along T) .nil (fun _ => .nil) (da_cons (de_var 8) (da_cons (de_call (ok__law_turned T) fm__law_turned (hr.mono (by decide)) rfl T.g__law_turned T.F__law_turned.kp (b__law_turned T) .nil (fun _ => .nil) (da_cons (de_var 7) (da_cons (de_var 12) (da_cons (de_var 11) da_nil)))) (da_cons (de_var 5) da_nil)))))
    (dss_one (ds_ret (de_tup (da_cons (de_tup (da_cons de_str (da_cons (de_var 1) (da_cons (de_var 9) (da_cons (de_var 8) (da_cons (de_var 11) da_nil)))))) (da_cons (de_tup (da_cons (de_var 5) (da_cons (de_var 6) (da_cons (de_call (ok__law_turned T) fm__law_turned (hr.mono (by decide)) rfl T.g__law_turned T.F__law_turned.kp (b__law_turned T) .nil (fun _ => .nil) (da_cons (de_var 6) (da_cons (de_var 12) (da_cons (de_var 11) da_nil)))) da_nil)))) da_nil))))))))))))))), fun xs ds Q h => ?_⟩)
  obtain ⟨n, k, p, o, wd, hb, hn, rfl, ⟨hp, hk⟩, ho, hwd, hq⟩ := h
  have hn' : n + 10 ≤ 1000000 := hn
  have bp := (hp.bc (by omega)).bd
  refine seq_op (fun δ => ∃ x kd, δ = [some (Sl.ow true x), some (Sl.sh (plD p)), some (Sl.sh (alD o)), some (Sl.sh (.int wd)), some (Sl.sh (.int kd)), none, none, none, none, none, none, none, none] ∧ (0 ≤ kd ∧ kd < 8) ∧ BagOk (n + 1) x) ?_ ?_
  · intro J' hJ
    walk_at "dl"
    refine take_at hb (show _ ≤ 1000000 by omega) (by omega) (by decide) fun kd x1 p1 p2 hb => ?_
    walk_at "dl"
    exact hJ _ ⟨_, _, rfl, ⟨p1, p2⟩, hb⟩
  rintro _ ⟨x1, kd, rfl, ⟨k1, k2⟩, hb⟩
  refine seq_op (fun δ => ∃ x s1 s2, δ = [some (Sl.ow true x), some (Sl.sh (plD p)), some (Sl.sh (alD o)), some (Sl.sh (.int wd)), some (Sl.sh (.int kd)), some (Sl.sh (numD (Rat.divInt (1 + s1) (1 + s2)))), none, none, none, none, none, none, none] ∧ (0 ≤ s1 ∧ s1 < wd) ∧ (0 ≤ s2 ∧ s2 < 4) ∧ BagOk (n + 3) x) ?_ ?_
  · intro J' hJ
    walk_at "dl"
    refine take_at hb (show _ ≤ 1000000 by omega) (by omega) (by omega) fun s1 x2 p3 p4 hb => ?_
    walk_at "dl"
    refine take_at hb (show _ ≤ 1000000 by omega) (by omega) (by decide) fun s2 x3 p5 p6 hb => ?_
    walk_at "dl"
    refine ⟨by omega, Nat.lt_of_lt_of_le (show _ < 2 ^ 5 by omega) (Nat.pow_le_pow_right (by decide) (by decide)), hJ _ ⟨_, _, _, rfl, ⟨p3, p4⟩, ⟨p5, p6⟩, hb⟩⟩
  rintro _ ⟨x2, s1, s2, rfl, ⟨p3, p4⟩, ⟨p5, p6⟩, hb⟩
  have bs : Bd 900 (Rat.divInt (1 + s1) (1 + s2)) := (bd_divInt (n := 9) (show _ < 512 by omega) (show _ < 512 by omega) (by omega)).mono (by decide)
  generalize hS : Rat.divInt (1 + s1) (1 + s2) = S at bs ⊢
  refine seq_op (fun δ => ∃ x u, δ = [some (Sl.ow true x), some (Sl.sh (plD p)), some (Sl.sh (alD o)), some (Sl.sh (.int wd)), some (Sl.sh (.int kd)), some (Sl.sh (numD S)), some (Sl.sh (plD u)), none, none, none, none, none, none] ∧ Hd (if 5 < kd then 13 else 25) u ∧ BagOk (n + 4) x) ?_ ?_
  · intro J' hJ
    walk_at "dl"
    by_cases h5 : 5 < kd
    · simp only [h5, decide_true, if_true]
      refine ⟨_, rfl, headb_at hb (show _ ≤ 1000000 by omega) (.inl rfl) fun u x3 hu hb => ?_⟩
      exact hJ _ ⟨_, u, rfl, by rw [if_pos h5]; exact hu, hb⟩
    · simp only [h5, decide_false]
      refine ⟨_, rfl, headb_at hb (show _ ≤ 1000000 by omega) (.inr rfl) fun u x3 hu hb => ?_⟩
      exact hJ _ ⟨_, u, rfl, by rw [if_neg h5]; exact hu, hb⟩
  rintro _ ⟨x3, u, rfl, hu, hb⟩
  refine seq_op (fun δ => ∃ x u b, δ = [some (Sl.ow true x), some (Sl.sh (plD p)), some (Sl.sh (alD o)), some (Sl.sh (.int wd)), some (Sl.sh (.int kd)), some (Sl.sh (numD S)), some (Sl.sh (plD u)), none, none, none, b, none, none] ∧ Hd (if 5 < kd then 13 else 25) u ∧ BagOk (n + 6) x) ?_ ?_
  · intro J' hJ
    walk_at "dl"
    cases o with
    | none => exact hJ _ ⟨_, u, _, rfl, hu, hb.mono (by omega)⟩
    | some v =>
      obtain ⟨v1, v2⟩ := v
      obtain ⟨vo, vb1, vb2⟩ := ho _ rfl
      simp only [alD, plD, isNone, Bool.not_false]
      walk_at "dl"
      have lim : ∃ L : Int, L ≤ (if 5 < kd then 14 else 26) ∧ atI [PyData.int 26, PyData.int 14] (if decide (5 < kd) = true then 1 else 0) = some (.int L) := by
        by_cases h5 : 5 < kd
        · rw [if_pos h5, if_pos (by exact decide_eq_true h5)]
          exact ⟨14, by omega, atI_1⟩
        · rw [if_neg h5, if_neg (by simp only [h5, decide_false]; decide)]
          exact ⟨26, by omega, atI_0⟩
      obtain ⟨L, hL, eL⟩ := lim
      refine ⟨_, eL, ?_⟩
      walk_at "dl"
      by_cases hd : (v1.den : Int) < L
      · simp only [hd, decide_true]
        refine take_at hb (show _ ≤ 1000000 by omega) (by omega) (by decide) fun d1 y1 _ _ hb => ?_
        walk_at "dl"
        cases hz : (d1 == 0)
        · exact hJ _ ⟨_, u, _, rfl, hu, hb.mono (by omega)⟩
        · simp only []
          refine take_at hb (show _ ≤ 1000000 by omega) (by omega) (by decide) fun d2 y2 _ _ hb => ?_
          generalize (asD (Res.d (PyData.int d2))).eqv (PyData.int 0) = bz
          walk_at "dl"
          have m2 : CMulW 2 (if bz = true then 1 else 0) := mul64 (by omega) (by omega) (by split <;> omega) (by split <;> omega)
          refine ⟨m2, ?_⟩
          have hw : (1 - 2 * if bz = true then (1 : Int) else 0) = 1 ∨ (1 - 2 * if bz = true then (1 : Int) else 0) = -1 := by
            split
            · exact .inr rfl
            · exact .inl rfl
          generalize (1 - 2 * if bz = true then (1 : Int) else 0) = w at hw ⊢
          have w2 : w.natAbs < 2 ^ 2 := by rcases hw with rfl | rfl <;> decide
          refine ⟨mulW (a := 2) (b := 20) w2 vb1.1 (by decide), mulW (a := 2) (b := 20) w2 vb2.1 (by decide), ?_⟩
          rw [num_side hw, num_side hw]
          have hv : Hd (if 5 < kd then 13 else 25) (v1, v2) := ⟨vo, by show v1.den ≤ _; split at hL <;> split <;> omega, hd_den (u := (v1, v2)) vo⟩
          exact hJ _ ⟨_, ((w : Rat) * v1, (w : Rat) * v2), _, rfl, hv.side hw, hb⟩
      · simp only [hd, decide_false]
        exact hJ _ ⟨_, u, _, rfl, hu, hb.mono (by omega)⟩
  rintro _ ⟨x4, u, b10, rfl, hu, hb⟩
  have hu25 : Hd 25 u := by
    split at hu
    · exact hu.mono (by decide)
    · exact hu
  have bu := (hu25.bc (n := 5) (by decide)).bd
  by_cases k0 : kd = 0
  · have e0 : (kd == 0) = true := by simp [k0]
    simp only [plD]
    walk_at "dl"
    rw [e0]
    simp only []
    refine take_at hb (show _ ≤ 1000000 by omega) (by omega) (by decide) fun d x5 d1 d2 hb => ?_
    walk_at "dl"
    have ed : Rat.divInt d 1 = (d : Rat) := by rw [Rat.divInt_eq_div, show (((1 : Int) : Rat)) = 1 from rfl]; grind
    have q := hp.add (hu25.pl (a := d) (b := 1) (Nat.le_refl _) (by omega) (by decide) (by omega) (by omega))
    rw [ed] at q
    have bd : Bd 900 (d : Rat) := by
      rw [← ed]
      exact (bd_divInt (n := 9) (show _ < 512 by omega) (show _ < 512 by omega) (by omega)).mono (by decide)
    refine ⟨bp.1.mono (by decide), bp.2.mono (by decide), bu.1.mono (by decide), bu.2.mono (by decide), bd, ?_⟩
    exact hq (.hop p (p.1 + u.1 * (d : Rat), p.2 + u.2 * (d : Rat))) _ ⟨hp.bc (by omega), q.bc (by omega)⟩ rfl (q.mono (by omega)) (hb.mono (by omega))
  have e0 : (kd == 0) = false := by simp [k0]
  by_cases k6 : kd < 6
  · have e6 : decide (kd < 6) = true := by simp [k6]
    simp only [plD]
    walk_at "dl"
    rw [e0]
    simp only [e6]
    obtain ⟨q1, q2, q3, q4⟩ := en_line (a := 1 + s1) (b := 1 + s2) hp hk hu25 (by omega) (dvd12 (by omega) (by omega)) (by omega) (by omega) (by omega) (by omega)
    rw [hS] at q1 q2 q3 q4
    refine ⟨bp.1.mono (by decide), bp.2.mono (by decide), bu.1.mono (by decide), bu.2.mono (by decide), bs, ?_⟩
    have := hq _ _ q1 rfl q4 (hb.mono (by omega))
    simp only [stD, faD, cD, lineD, q2, q3] at this
    exact this
  have e6 : decide (kd < 6) = false := by simp [k6]
  rw [if_pos (by omega)] at hu
  simp only [plD]
  walk_at "dl"
  rw [e0]
  simp only [e6]
  refine take_at hb (show _ ≤ 1000000 by omega) (by omega) (by decide) fun d x5 d1 d2 hb => ?_
  walk_at "dl"
  refine ⟨mul64 (by omega) (by omega) (by omega) (by omega), ?_⟩
  refine headb_at hb (show _ ≤ 1000000 by omega) (.inl rfl) fun v x6 hv hb => ?_
  have hw : 1 - 2 * d = 1 ∨ 1 - 2 * d = -1 := by omega
  generalize 1 - 2 * d = w at hw ⊢
  have w2 : w.natAbs < 2 ^ 2 := by rcases hw with rfl | rfl <;> decide
  walk_at "dl"
  refine ⟨mulW (a := 2) (b := 5) w2 bu.2.1 (by decide), mulW (a := 2) (b := 5) w2 bu.1.1 (by decide), ?_⟩
  rw [num_side hw, num_sideN hw]
  walk_at "dl"
  obtain ⟨q1, q2, q3, q5, q4⟩ := en_arc (a := 1 + s1) (b := 1 + s2) hp hk hu hv hw (by omega) (dvd12 (by omega) (by omega)) (by omega) (by omega) (by omega) (by omega) rfl rfl
  rw [hS] at q1 q2 q3 q4 q5
  have bv := (hv.bc (n := 5) (by decide)).bd
  have sp := hu.spoke hw
  have bsp := (sp.bc (n := 5) (by decide)).bd
  have bt := (trn_bc sp hv hw).bd
  have bo := (q5.bc (by omega)).bd
  refine ⟨bp.1.mono (by decide), bp.2.mono (by decide), bsp.1.mono (by decide), bsp.2.mono (by decide), bs.neg, bsp.1.mono (by decide), bsp.2.mono (by decide), bv.1.mono (by decide), bv.2.mono (by decide), hw, bo.1.mono (by decide), bo.2.mono (by decide), bt.1.mono (by decide), bt.2.mono (by decide), bs, bu.1.mono (by decide), bu.2.mono (by decide), bv.1.mono (by decide), bv.2.mono (by decide), hw, ?_⟩
  have := hq _ _ q1 rfl q4 (hb.mono (by omega))
  simp only [stD, faD, cD, arcD, q2, q3] at this
  exact this
theorem b__law_joint_caps {K : Fg} {mg : Str → Option Value} (T : Tx K mg) : Binds K T.fd__law_joint_caps ["_law_entries", "_law_facts", "_law_drag", "_law_jerk"] [] := T.F__law_joint_caps.bindsN fun _ _ _ _ _ _ us hl => match us, hl with | [_, _, _, _], _ => rfl
theorem fm__law_joint_caps : FMono f_ljcaps := fm_ljcaps
theorem ln__law_joint_caps : ∀ ds Q, f_ljcaps ds Q → ds.length = (["_law_entries", "_law_facts", "_law_drag", "_law_jerk"] : List Str).length := ln_ljcaps
theorem ok__law_joint_caps {P : Program} {w : World} {K : Fg} {mg : Str → Option Value} {base : Heap} (T : Tx K mg) : FnOk P w K mg base CX0 4 (He.fAd K ("_law_joint_caps", none)) T.fd__law_joint_caps ["_law_entries", "_law_facts", "_law_drag", "_law_jerk"] (spP K f_ljcaps) := by
  refine ok_pure T.F__law_joint_caps sc__law_joint_caps fm__law_joint_caps ln__law_joint_caps (fun cdv A outer s H E Z hr => ⟨_, (dss_cons (ds_setLc (i := 4) [("_law_entry", 12), ("_law_fact", 13)] rfl sc__law_joint_caps.nd rfl rfl (sw_true rfl rfl rfl (by decide +kernel)) (di_zip rfl T.m_zip (da_cons (de_var 0) (da_cons (de_var 1) da_nil))) (blkOk_by (own := [("_law_entry", 12), ("_law_fact", 13)]) (N := ["_law_entries", "_law_facts", "_law_drag", "_law_jerk", "_law_caps", "_law_found", "_law_k", "_law_cap", "_law_both", "_law_part", "_law_u", "_law_v", "_law_entry", "_law_fact"]) (sc := defScope s__law_joint_caps) (by decide +kernel)) (fun _ _ _ _ _ _ => (dg_tup (n := 2) rfl (dgs_cons (dg_name (i := 12) sc__law_joint_caps.nd rfl (by first | exact Or.inl rfl | exact Or.inr rfl)) (dgs_cons (dg_name (i := 13) sc__law_joint_caps.nd rfl (by first | exact Or.inl rfl | exact Or.inr rfl)) dgs_nil)))) (fun _ _ _ _ _ _ => dts_nil) (fun _ _ _ _ _ _ => (de_call (ok__law_entry_cap T) fm__law_entry_cap (hr.mono (by decide)) rfl T.g__law_entry_cap T.F__law_entry_cap.kp (b__law_entry_cap T) .nil (fun _ => .nil) (da_cons (de_var 12) (da_cons (de_var 13) (da_cons (de_var 2) da_nil))))))
    (dss_cons (ds_setO (i := 5) sc__law_joint_caps.nd rfl (by first | exact Or.inl rfl | exact Or.inr rfl) (do_lst (da_cons de_int da_nil)))
    (dss_cons (ds_for PassesOwn.never rfl (di_range2 rfl T.m_range (da_cons de_int (da_cons (de_b cd_len rfl T.m_len bb_len (da_cons (de_var 0) da_nil)) da_nil))) (dg_name (i := 6) sc__law_joint_caps.nd rfl (by first | exact Or.inl rfl | exact Or.inr rfl))
    (dss_cons (ds_set (i := 7) sc__law_joint_caps.nd rfl (by first | exact Or.inl rfl | exact Or.inr rfl) (de_b (cd_min rfl) rfl T.m_min bb_min (da_cons (de_ix (de_var 4) (de_op od_sub (de_var 6) de_int)) (da_cons (de_ix (de_var 4) (de_var 6)) da_nil))))
    (dss_cons (ds_if (Dw.pt (dw_and (dt_cmp od_gt (de_var 7) de_int) (dw_and1 (dt_cmp (od_ne hr.units) (de_ix (de_ix (de_var 1) (de_op od_sub (de_var 6) de_int)) de_int) (de_ix (de_ix (de_var 1) (de_var 6)) de_int)))))
    (dss_cons (ds_par (i := 10) (j := 11) rfl sc__law_joint_caps.nd rfl rfl (by decide) rfl rfl (da_cons (de_ix (de_ix (de_var 1) (de_op od_sub (de_var 6) de_int)) de_int) (da_cons (de_ix (de_ix (de_var 1) (de_var 6)) de_int) da_nil)) (fun _ h => ps_par rfl sc__law_joint_caps.nd rfl rfl (by decide) rfl rfl h (by rfl)))
    (dss_cons (ds_set (i := 8) sc__law_joint_caps.nd rfl (by first | exact Or.inl rfl | exact Or.inr rfl) (de_call (ok__law_plus T) fm__law_plus (hr.mono (by decide)) rfl T.g__law_plus T.F__law_plus.kp (b__law_plus T) .nil (fun _ => .nil) (da_cons (de_call (ok__law_times T) fm__law_times (hr.mono (by decide)) rfl T.g__law_times T.F__law_times.kp (b__law_times T) .nil (fun _ => .nil) (da_cons (de_ix (de_var 10) de_int) (da_cons (de_ix (de_var 11) de_int) da_nil))) (da_cons (de_call (ok__law_times T) fm__law_times (hr.mono (by decide)) rfl T.g__law_times T.F__law_times.kp (b__law_times T) .nil (fun _ => .nil) (da_cons (de_ix (de_var 10) de_int) (da_cons (de_ix (de_var 11) de_int) da_nil))) da_nil))))
    (dss_cons (ds_set (i := 9) sc__law_joint_caps.nd rfl (by first | exact Or.inl rfl | exact Or.inr rfl) (de_call (ok__law_low T) fm__law_low (hr.mono (by decide)) rfl T.g__law_low T.F__law_low.kp (b__law_low T) .nil (fun _ => .nil) (da_cons (de_op od_sub (de_op od_mul de_int (de_ix (de_var 8) de_int)) (de_op od_mul de_int (de_ix (de_var 8) de_int))) (da_cons (de_ix (de_var 8) de_int) da_nil))))
    (dss_one (ds_set (i := 7) sc__law_joint_caps.nd rfl (by first | exact Or.inl rfl | exact Or.inr rfl) (de_b (cd_min rfl) rfl T.m_min bb_min (da_cons (de_var 7) (da_cons (de_call (ok__law_gear T) fm__law_gear (hr.mono (by decide)) rfl T.g__law_gear T.F__law_gear.kp (b__law_gear T) .nil (fun _ => .nil) (da_cons de_int (da_cons (de_var 9) (da_cons (de_call (ok__law_times T) fm__law_times (hr.mono (by decide)) rfl T.g__law_times T.F__law_times.kp (b__law_times T) .nil (fun _ => .nil) (da_cons (de_var 3) (da_cons (de_var 3) da_nil))) da_nil)))) da_nil))))))))
    dss_nil)
    (dss_one (ds_app 5 (de_var 7))))))
    (dss_one (ds_ret (de_op od_addA (de_var 5) (de_repE (do_lst (da_cons de_int da_nil)) (fun _ => (de_ty cd_int rfl T.m_int bt_int (da_cons (de_cmp (od_ne hr.units) (de_var 0) (Do.sh (do_lst da_nil))) da_nil)))))))))), fun ds Q h => ?_⟩)
  obtain ⟨ts, pl, jt, rfl, ⟨ht, hl, ⟨h1, h2⟩, h3, h4⟩, hq⟩ := h
  have hn : ts.length ≤ 16777216 := by omega
  refine seq_k fun K hK => ?_
  walk_at "dl"
  rw [zip_map]
  refine lc_map (fun t => .int (capOf pl t)) hn (fun t m R hR => ?_) ?_
  · walk_at "dl"
    exact ⟨t, _, rfl, ⟨ht t m, by grind, h2⟩, hR _ rfl⟩
  refine hK _ ?_
  refine seq_k fun K hK => ?_
  walk_at "dl"
  refine hK _ ?_
  refine seq_k fun K hK => ?_
  simp only [dFor, iRg2]
  walk_at "dl"
  simp only [List.length_map]
  refine ⟨by decide, by decide, by omega, by omega, ?_⟩
  have bjj : Bd 200 (jt * jt) := (h4.mul h4).mono (by decide)
  have hj0 : 0 ≤ jt * jt := Rat.mul_nonneg (by grind) (by grind)
  refine for_op (fun j δ => ∃ a6 a7 a8 a9 a10 a11, δ = [some (Sl.sh (PyData.list (List.map etD ts))), some (Sl.sh (PyData.list (List.map (fun t => faD t.e) ts))), some (Sl.sh (numD pl)), some (Sl.sh (numD jt)), some (Sl.sh (PyData.list (List.map (fun t => PyData.int (capOf pl t)) ts))), some (Sl.ow false (lf (j + 1) (jcaps pl jt ts))), a6, a7, a8, a9, a10, a11, none, none]) ⟨_, _, _, _, _, _, rfl⟩ ?_ ?_
  · rintro W hW j x0 δ hj ⟨a6, a7, a8, a9, a10, a11, rfl⟩
    have hj2 := get_lt hj
    rw [rngD_len] at hj2
    rw [rngD_get hj2] at hj
    cases hj
    have hjn : j + 1 < ts.length := by omega
    obtain ⟨x, ex⟩ : ∃ x, ts[j]? = some x := ⟨_, List.getElem?_eq_getElem (by omega)⟩
    obtain ⟨y, ey⟩ : ∃ y, ts[j + 1]? = some y := ⟨_, List.getElem?_eq_getElem hjn⟩
    have wx := ht x (List.mem_of_getElem? ex)
    have wy := ht y (List.mem_of_getElem? ey)
    have cx := cap_in (pl := pl) wx
    have cy := cap_in (pl := pl) wy
    have px := wx.2.1
    have ej : jcaps pl jt ts (j + 1) = min (min (capOf pl x) (capOf pl y)) (joltOf jt x.e y.e) := by
      show (match ts[j]?, ts[j + 1]? with | some a, some b => jcap pl jt a b | _, _ => 0) = _
      rw [ex, ey]
      rfl
    have jl := jolt_in (jt := jt) (a := x.e) (b := y.e)
    have e1 : (1 + (j : Int)) - 1 = (j : Int) := by omega
    have e2 : 1 + (j : Int) = ((j + 1 : Nat) : Int) := by omega
    have c1 : atI (List.map (fun t => PyData.int (capOf pl t)) ts) (j : Int) = some (.int (capOf pl x)) := atI_nat (by rw [List.getElem?_map, ex]; rfl)
    have c2 : atI (List.map (fun t => PyData.int (capOf pl t)) ts) ((j + 1 : Nat) : Int) = some (.int (capOf pl y)) := atI_nat (by rw [List.getElem?_map, ey]; rfl)
    have k1 : atI (List.map (fun t => faD t.e) ts) (j : Int) = some (faD x.e) := atI_nat (by rw [List.getElem?_map, ex]; rfl)
    have k2 : atI (List.map (fun t => faD t.e) ts) ((j + 1 : Nat) : Int) = some (faD y.e) := atI_nat (by rw [List.getElem?_map, ey]; rfl)
    simp only [gNm, List.set_cons_succ, List.set_cons_zero]
    refine seq_k fun K hK => ?_
    walk_at "dl"
    rw [e1, c1, e2, c2]
    refine ⟨_, rfl, _, rfl, ?_⟩
    have em : (if capOf pl y < capOf pl x then capOf pl y else capOf pl x) = min (capOf pl x) (capOf pl y) := by split <;> omega
    simp only [em]
    have next : ∀ (v : Int) (b8 b9 b10 b11 : Option Sl), v = jcaps pl jt ts (j + 1) → dApp 5 (dVar 7) { nx := W (j + 1), rt := fun d x => Q (Res.d d), ro := fun xs x => Q (Res.o xs), bk := K, ct := W (j + 1) } [some (Sl.sh (PyData.list (List.map etD ts))), some (Sl.sh (PyData.list (List.map (fun t => faD t.e) ts))), some (Sl.sh (numD pl)), some (Sl.sh (numD jt)), some (Sl.sh (PyData.list (List.map (fun t => PyData.int (capOf pl t)) ts))), some (Sl.ow false (lf (j + 1) (jcaps pl jt ts))), some (Sl.sh (PyData.int ((j + 1 : Nat) : Int))), some (Sl.sh (PyData.int v)), b8, b9, b10, b11, none, none] := by
      intro v b8 b9 b10 b11 ev
      walk_at "dl"
      refine ⟨by rw [lf_len]; omega, ?_⟩
      rw [ev, ← lf_snoc]
      exact hW _ _ ⟨_, _, _, _, _, _, rfl⟩
    generalize hM : min (capOf pl x) (capOf pl y) = M at *
    have hM9 : M ≤ 9 := by omega
    by_cases hm : 0 < M
    · obtain ⟨ct, r, hx⟩ : ∃ ct r, x.e = .cut ct r := by
        cases h : x.e with
        | cut ct r => exact ⟨ct, r, rfl⟩
        | hop b f =>
          have : capOf pl x = 0 := by unfold capOf; rw [h]
          omega
      obtain ⟨ct', r', hy⟩ : ∃ ct r, y.e = .cut ct r := by
        cases h : y.e with
        | cut ct r => exact ⟨ct, r, rfl⟩
        | hop b f =>
          have : capOf pl y = 0 := by unfold capOf; rw [h]
          omega
      have ux := wx.1
      have uy := wy.1
      rw [hx] at ux k1
      rw [hy] at uy k2
      rw [hx, hy] at ej
      obtain ⟨_, _, _, ⟨hu1, bu1, bu2⟩⟩ := ux
      obtain ⟨_, _, ⟨hv1, bv1, bv2⟩, _⟩ := uy
      have k1 : _ = some (PyData.tuple [numD r, plD (hd0 r ct), plD (hd1 r ct)]) := k1
      have k2 : _ = some (PyData.tuple [numD r', plD (hd0 r' ct'), plD (hd1 r' ct')]) := k2
      have ej : jcaps pl jt ts (j + 1) = min M (if hd1 r ct = hd0 r' ct' then 9 else ((gearN 9 (2 - 2 * dotR (hd1 r ct) (hd0 r' ct')) (jt * jt) : Nat) : Int)) := ej
      generalize hd1 r ct = u at *
      generalize hd0 r' ct' = v at *
      obtain ⟨u1, u2⟩ := u
      obtain ⟨v1, v2⟩ := v
      simp only [plD] at k1 k2 bu1 bu2 bv1 bv2
      refine hK _ ?_
      refine seq_k fun K hK => ?_
      walk_at "dl"
      simp only [hm, decide_true]
      have e1' : ((j + 1 : Nat) : Int) - 1 = (j : Int) := by omega
      simp only [e1', k1, k2]
      refine ⟨_, rfl, ?_⟩
      walk_at "dl"
      by_cases hc : u1 = v1 ∧ u2 = v2
      · obtain ⟨rfl, rfl⟩ := hc
        simp only [decide_true, Bool.and_true, Bool.not_true]
        refine hK _ (next _ _ _ _ _ ?_)
        rw [ej, if_pos rfl]
        omega
      · have hd : (decide (u1 = v1) && decide (u2 = v2)) = false := by
          rw [← Bool.decide_and]
          exact decide_eq_false hc
        rw [hd]
        have ne : ¬ ((u1, u2) = (v1, v2)) := fun e => hc ⟨congrArg Prod.fst e, congrArg Prod.snd e⟩
        rw [if_neg ne] at ej
        have ep : Rat.divInt (2 * ((u1 * v1 + u2 * v2).den : Int) - 2 * (u1 * v1 + u2 * v2).num) ((u1 * v1 + u2 * v2).den : Int) = 2 - 2 * dotR (u1, u2) (v1, v2) := two_less _
        simp only [ep, Bool.not_false]
        have b2 : Bd 10 (2 : Rat) := Bd.int (n := 10) (i := 2) (by decide) (by decide)
        have bw2 : Bd 200 (u1 * v1 + u2 * v2) := by walk_at "bd"
        have bp : Bd 400 (2 - 2 * dotR (u1, u2) (v1, v2)) := (b2.sub (b2.mul bw2)).mono (by decide)
        refine ⟨bu1.mono (by decide), bv1.mono (by decide), bu2.mono (by decide), bv2.mono (by decide), (bu1.mul bv1).mono (by decide), (bu2.mul bv2).mono (by decide), mulW (a := 10) (b := 200) (by decide) (by rw [Int.natAbs_natCast]; exact bw2.2) (by decide), mulW (a := 10) (b := 200) (by decide) bw2.1 (by decide), by have := (u1 * v1 + u2 * v2).den_pos; omega, ?_, h4.mono (by decide), h4.mono (by decide), by decide, by decide, hj0, bp.mono (by decide), bjj.mono (by decide), ?_⟩
        · rw [Int.natAbs_natCast]
          exact Nat.lt_of_lt_of_le bw2.2 (Nat.pow_le_pow_right (by decide) (by decide))
        · refine hK _ (next _ _ _ _ _ ?_)
          rw [ej]
          show _ = min M ((gearN 9 _ _ : Nat) : Int)
          rw [show Int.toNat 9 = 9 from rfl]
          omega
    · refine hK _ ?_
      refine seq_k fun K hK => ?_
      walk_at "dl"
      simp only [hm, decide_false]
      refine hK _ (next _ _ _ _ _ ?_)
      rw [ej]
      omega
  · rintro δ ⟨a6, a7, a8, a9, a10, a11, rfl⟩
    refine hK _ ?_
    rw [rngD_len]
    have gd := ets_gd ht
    have she := gd.sh (by decide)
    walk_at "dl"
    refine ⟨she, rfl, ?_⟩
    cases ts with
    | nil => exact ⟨by decide, by decide, by decide, (show 1 ≤ 16777216 by decide), hq⟩
    | cons t0 tr =>
      have ee : PyData.eqvAll (List.map etD (t0 :: tr)) [] = false := rfl
      rw [ee]
      have hl' : tr.length + 1 ≤ 400 := hl
      have en : (((t0 :: tr).length : Int) - 1).toNat + 1 = tr.length + 1 := by rw [List.length_cons]; omega
      rw [en]
      refine ⟨by decide, by decide, by decide, ?_, ?_⟩
      · rw [lf_len]
        exact (show tr.length + 1 + 1 ≤ 16777216 by omega)
      · have ef : lf (tr.length + 1) (jcaps pl jt (t0 :: tr)) ++ [PyData.int 0] = lf ((t0 :: tr).length + 1) (jcaps pl jt (t0 :: tr)) := by
          rw [lf_snoc (n := (t0 :: tr).length)]
          have : jcaps pl jt (t0 :: tr) (t0 :: tr).length = 0 := by
            show (match (t0 :: tr)[tr.length]?, (t0 :: tr)[tr.length + 1]? with | some a, some b => jcap pl jt a b | _, _ => 0) = _
            rw [show (t0 :: tr)[tr.length + 1]? = none from List.getElem?_eq_none (by rw [List.length_cons]; omega)]
            split <;> simp_all
          rw [this]
          rfl
        have ef2 : lf (tr.length + 1) (jcaps pl jt (t0 :: tr)) ++ (List.replicate (if (!false) = true then (1 : Int) else 0).toNat [PyData.int 0]).flatten = lf ((t0 :: tr).length + 1) (jcaps pl jt (t0 :: tr)) := ef
        rw [ef2]
        exact hq
theorem b_lessened {K : Fg} {mg : Str → Option Value} (T : Tx K mg) : Binds K T.fd_lessened ["one", "other"] [] := T.F_lessened.bindsN fun _ _ _ _ _ _ us hl => match us, hl with | [_, _], _ => rfl
theorem fm_lessened : FMono f_less := fm2
theorem ln_lessened : ∀ ds Q, f_less ds Q → ds.length = (["one", "other"] : List Str).length := ln2
theorem ok_lessened {P : Program} {w : World} {K : Fg} {mg : Str → Option Value} {base : Heap} (T : Tx K mg) : FnOk P w K mg base CX0 5 (He.fAd K ("lessened", none)) T.fd_lessened ["one", "other"] (spP K f_less) := by
  refine ok_pure T.F_lessened sc_lessened fm_lessened ln_lessened (fun cdv A outer s H E Z hr => ⟨_, (dss_one (ds_ret (de_tup (da_cons (de_call (ok_minus T) fm_minus (hr.mono (by decide)) rfl T.g_minus T.F_minus.kp (b_minus T) .nil (fun _ => .nil) (da_cons (de_ix (de_var 0) de_int) (da_cons (de_ix (de_var 1) de_int) da_nil))) (da_cons (de_call (ok_minus T) fm_minus (hr.mono (by decide)) rfl T.g_minus T.F_minus.kp (b_minus T) .nil (fun _ => .nil) (da_cons (de_ix (de_var 0) de_int) (da_cons (de_ix (de_var 1) de_int) da_nil))) da_nil))))), fun ds Q h => ?_⟩)
  obtain ⟨⟨a, b⟩, ⟨c, d⟩, rfl, ⟨⟨h1, h2⟩, h3, h4⟩, hq⟩ := h
  simp only [plD] at h1 h2 h3 h4 hq ⊢
  walk_at "dl"
  walk_at "sd"
theorem b__law_way {K : Fg} {mg : Str → Option Value} (T : Tx K mg) : Binds K T.fd__law_way ["_law_bag_here", "_law_most", "_law_wide"] [] := T.F__law_way.bindsN fun _ _ _ _ _ _ us hl => match us, hl with | [_, _, _], _ => rfl
theorem bm__law_way : BMono f_wayb := bm_wayb
theorem ln__law_way : ∀ xs ds Q, f_wayb xs ds Q → ds.length + 1 = (["_law_bag_here", "_law_most", "_law_wide"] : List Str).length := bl_wayb
theorem ok__law_way {P : Program} {w : World} {K : Fg} {mg : Str → Option Value} {base : Heap} (T : Tx K mg) : FnOk P w K mg base CX0 5 (He.fAd K ("_law_way", none)) T.fd__law_way ["_law_bag_here", "_law_most", "_law_wide"] (spB K f_wayb) := by
  refine ok_bag T.F__law_way sc__law_way bm__law_way ln__law_way (fun cdv A outer s H E Z hr => ⟨_, (dss_cons (ds_set (i := 3) sc__law_way.nd rfl (by first | exact Or.inl rfl | exact Or.inr rfl) (de_tup (da_cons (de_call (ok__law_low T) fm__law_low (hr.mono (by decide)) rfl T.g__law_low T.F__law_low.kp (b__law_low T) .nil (fun _ => .nil) (da_cons (de_op od_sub (de_callB 0 (ok__law_take T) bm__law_take (hr.mono (by decide)) rfl T.g__law_take T.F__law_take.kp (b__law_take T) (da_cons de_int da_nil)) de_int) (da_cons (de_op od_add de_int (de_callB 0 (ok__law_take T) bm__law_take (hr.mono (by decide)) rfl T.g__law_take T.F__law_take.kp (b__law_take T) (da_cons de_int da_nil))) da_nil))) (da_cons (de_tup (da_cons (de_op od_sub (de_callB 0 (ok__law_take T) bm__law_take (hr.mono (by decide)) rfl T.g__law_take T.F__law_take.kp (b__law_take T) (da_cons de_int da_nil)) de_int) (da_cons de_int da_nil))) da_nil))))
    (dss_cons (ds_set (i := 4) sc__law_way.nd rfl (by first | exact Or.inl rfl | exact Or.inr rfl) de_non)
    (dss_cons (ds_parO (i := 6) (j := 7) sc__law_way.nd rfl rfl (by decide) (do_lst da_nil) (fun _ => do_lst da_nil) (fun _ h => ps_par rfl sc__law_way.nd rfl rfl (by decide) rfl rfl h (by rfl)))
    (dss_cons (ds_for PassesOwn.never rfl (di_range1 rfl T.m_range (da_cons (de_callB 0 (ok__law_take T) bm__law_take (hr.mono (by decide)) rfl T.g__law_take T.F__law_take.kp (b__law_take T) (da_cons (de_op od_add (de_var 1) de_int) da_nil)) da_nil)) (dg_name (i := 5) sc__law_way.nd rfl (by first | exact Or.inl rfl | exact Or.inr rfl))
    (dss_cons (ds_asg (de_callB 0 (ok__law_step T) bm__law_step (hr.mono (by decide)) rfl T.g__law_step T.F__law_step.kp (b__law_step T) (da_cons (de_var 3) (da_cons (de_var 4) (da_cons (de_var 2) da_nil)))) (dg_tup (n := 2) rfl (dgs_cons (dg_name (i := 8) sc__law_way.nd rfl (by first | exact Or.inl rfl | exact Or.inr rfl)) (dgs_cons (dg_name (i := 9) sc__law_way.nd rfl (by first | exact Or.inl rfl | exact Or.inr rfl)) dgs_nil))))
    (dss_cons (ds_app 6 (de_tup (da_cons (de_var 8) (da_cons (de_ix (Do.sh (do_lst (da_cons de_int (da_cons (de_callB 0 (ok__law_take T) bm__law_take (hr.mono (by decide)) rfl T.g__law_take T.F__law_take.kp (b__law_take T) (da_cons de_int da_nil)) da_nil)))) (de_callB 0 (ok__law_take T) bm__law_take (hr.mono (by decide)) rfl T.g__law_take T.F__law_take.kp (b__law_take T) (da_cons de_int da_nil))) (da_cons (de_callB 0 (ok__law_take T) bm__law_take (hr.mono (by decide)) rfl T.g__law_take T.F__law_take.kp (b__law_take T) (da_cons de_int da_nil)) da_nil)))))
    (dss_cons (ds_app 7 (de_var 9))
    (dss_cons (ds_set (i := 3) sc__law_way.nd rfl (by first | exact Or.inl rfl | exact Or.inr rfl) (de_ix (de_var 8) de_int))
    (dss_one (ds_set (i := 4) sc__law_way.nd rfl (by first | exact Or.inl rfl | exact Or.inr rfl) (de_if (dt_cmp od_is (de_var 9) de_non) de_non (de_ix (de_var 9) de_int)))))))))
    (dss_one (ds_ret (de_tup (da_cons (de_var 6) (da_cons (de_var 7) da_nil))))))))), fun xs ds Q h => ?_⟩)
  obtain ⟨n, most, wd, hb, hn, rfl, hm, hwd, hq⟩ := h
  have hn' : n + 5000 ≤ 1000000 := hn
  refine seq_op (fun δ => ∃ x p, δ = [some (Sl.ow true x), some (Sl.sh (.int most)), some (Sl.sh (.int wd)), some (Sl.sh (plD p)), none, none, none, none, none, none] ∧ Pl 20 p ∧ BagOk (n + 3) x) ?_ ?_
  · intro J' hJ
    walk_at "dl"
    refine take_at hb (show _ ≤ 1000000 by omega) (by omega) (by decide) fun d1 x1 p1 p2 hb => ?_
    walk_at "dl"
    refine take_at hb (show _ ≤ 1000000 by omega) (by omega) (by decide) fun d2 x2 p3 p4 hb => ?_
    walk_at "dl"
    refine ⟨by omega, Nat.lt_of_lt_of_le (show _ < 2 ^ 5 by omega) (Nat.pow_le_pow_right (by decide) (by decide)), ?_⟩
    refine take_at hb (show _ ≤ 1000000 by omega) (by omega) (by decide) fun d3 x3 p5 p6 hb => ?_
    walk_at "dl"
    exact hJ _ ⟨_, (Rat.divInt (d1 - 20) (1 + d2), ((d3 - 20 : Int) : Rat)), rfl, pl_start (by omega) (by omega) (by omega), hb⟩
  rintro _ ⟨x1, p, rfl, hp, hb⟩
  walk_at "dl"
  simp only [dFor, iRg1]
  walk_at "dl"
  refine take_at hb (show _ ≤ 1000000 by omega) (by omega) (by omega) fun m x2 p1 p2 hb => ?_
  walk_at "dl"
  refine ⟨by omega, by omega, ?_⟩
  refine for_op (fun j δ => ∃ x p o b5 b8 b9 ts, δ = [some (Sl.ow true x), some (Sl.sh (.int most)), some (Sl.sh (.int wd)), some (Sl.sh (plD p)), some (Sl.sh (alD o)), b5, some (Sl.ow false (ts.map etD)), some (Sl.ow false (ts.map fun t => faD t.e)), b8, b9] ∧
    ts.length = j ∧ Pl (20 + 80 * j) p ∧ AlOk o ∧ (∀ t ∈ ts, EtOk t) ∧ Linked ts ∧ (∀ s, ts.getLast? = some s → fin s.e = p) ∧ BagOk (n + 4 + 13 * j) x) ⟨_, p, none, _, _, _, [], rfl, rfl, hp, (fun u z => nomatch z), (fun t z => nomatch z), trivial, (fun s z => nomatch z), hb⟩ ?_ ?_
  · rintro W hW j d δ hi ⟨x, p, o, b5, b8, b9, ts, rfl, hl, hp, ho, hts, hlk, hlast, hb⟩
    have hi2 := get_lt hi
    rw [rngD_len] at hi2
    rw [rngD_get hi2] at hi
    cases hi
    rw [Int.zero_add]
    walk_at "dl"
    refine ⟨_, 20 + 80 * j, p, o, wd, hb, show _ ≤ 1000000 by omega, rfl, ⟨hp, by omega⟩, ho, hwd, fun e x' he hbeg hfin hb => ?_⟩
    walk_at "dl"
    refine take_at hb (show _ ≤ 1000000 by omega) (by omega) (by decide) fun d1 x3 p3 p4 hb => ?_
    walk_at "dl"
    refine take_at hb (show _ ≤ 1000000 by omega) (by omega) (by decide) fun d2 x4 p5 p6 hb => ?_
    walk_at "dl"
    obtain ⟨z, hz, ez⟩ := pick2 (a := 9) (b := d1) p5 p6
    refine ⟨_, ez, ?_⟩
    refine take_at hb (show _ ≤ 1000000 by omega) (by omega) (by decide) fun d3 x5 p7 p8 hb => ?_
    have l1 : (List.map etD ts).length < 16777216 := by rw [List.length_map]; omega
    have l2 : (List.map (fun t => faD t.e) ts).length < 16777216 := by rw [List.length_map]; omega
    refine ⟨l1, l2, ?_⟩
    have r2 : ∀ Q' : PyData → Prop, Q' (plD (fin e)) → DL.rIx (stD e) (.int 2) Q' := by
      intro Q' h
      obtain ⟨xs, e1, e2⟩ := st_at2 (e := e)
      rw [e1]
      exact ⟨_, e2, h⟩
    refine r2 _ ?_
    have ok : EtOk ⟨e, z, d3⟩ := ⟨he, ⟨by show 0 ≤ z; omega, by show z ≤ 9; omega⟩, p7, p8⟩
    have next := hW (j + 1) [some (Sl.ow true x5), some (Sl.sh (PyData.int most)), some (Sl.sh (PyData.int wd)), some (Sl.sh (plD (fin e))), some (Sl.sh (alD (endAl e))), some (Sl.sh (PyData.int (j : Int))),
        some (Sl.ow false (List.map etD ts ++ [PyData.tuple [stD e, .int z, .int d3]])), some (Sl.ow false (List.map (fun t => faD t.e) ts ++ [faD e])), some (Sl.sh (stD e)), some (Sl.sh (faD e))]
      ⟨_, fin e, endAl e, _, _, _, ts ++ [⟨e, z, d3⟩], by rw [List.map_append, List.map_append]; rfl, by rw [List.length_append, hl]; rfl, hfin.mono (by omega), AlOk_end he,
        (fun t ht => by
          rcases List.mem_append.mp ht with h | h
          · exact hts t h
          · rw [List.mem_singleton.mp h]; exact ok), linked_snoc hlk (fun s hs => (hlast s hs).trans hbeg.symm), (fun s hs => by rw [List.getLast?_concat] at hs; cases hs; rfl), hb.mono (by omega)⟩
    cases e with
    | hop b f => exact next
    | cut ct r => exact ⟨_, atI_2, next⟩
  rintro δ ⟨x, p, o, b5, b8, b9, ts, rfl, hl, hp, ho, hts, hlk, hlast, hb⟩
  rw [rngD_len] at hl hb
  walk_at "dl"
  exact hq ts _ hts hlk (by omega) (hb.mono (by omega))
theorem b_distance {K : Fg} {mg : Str → Option Value} (T : Tx K mg) : Binds K T.fd_distance ["one", "other"] [] := T.F_distance.bindsN fun _ _ _ _ _ _ us hl => match us, hl with | [_, _], _ => rfl
theorem fm_distance : FMono f_dist := fm2
theorem ln_distance : ∀ ds Q, f_dist ds Q → ds.length = (["one", "other"] : List Str).length := ln2
theorem ok_distance {P : Program} {w : World} {K : Fg} {mg : Str → Option Value} {base : Heap} (T : Tx K mg) : FnOk P w K mg base CX0 6 (He.fAd K ("distance", none)) T.fd_distance ["one", "other"] (spP K f_dist) := by
  refine ok_pure T.F_distance sc_distance fm_distance ln_distance (fun cdv A outer s H E Z hr => ⟨_, (dss_cons (ds_set (i := 2) sc_distance.nd rfl (by first | exact Or.inl rfl | exact Or.inr rfl) (de_call (ok_lessened T) fm_lessened (hr.mono (by decide)) rfl T.g_lessened T.F_lessened.kp (b_lessened T) .nil (fun _ => .nil) (da_cons (de_var 0) (da_cons (de_var 1) da_nil))))
    (dss_one (ds_ret (de_call (ok_root T) fm_root (hr.mono (by decide)) rfl T.g_root T.F_root.kp (b_root T) .nil (fun _ => .nil) (da_cons (de_call (ok_dot T) fm_dot (hr.mono (by decide)) rfl T.g_dot T.F_dot.kp (b_dot T) .nil (fun _ => .nil) (da_cons (de_var 2) (da_cons (de_var 2) da_nil))) da_nil))))), fun ds Q h => ?_⟩)
  obtain ⟨⟨a, b⟩, ⟨c, d⟩, rfl, ⟨⟨h1, h2⟩, h3, h4⟩, hq⟩ := h
  simp only [plD] at h1 h2 h3 h4 hq ⊢
  walk_at "dl"
  walk_at "sd"
theorem b_heading_to {K : Fg} {mg : Str → Option Value} (T : Tx K mg) : Binds K T.fd_heading_to ["one", "other"] [] := T.F_heading_to.bindsN fun _ _ _ _ _ _ us hl => match us, hl with | [_, _], _ => rfl
theorem fm_heading_to : FMono f_headto := fm_headto
theorem ln_heading_to : ∀ ds Q, f_headto ds Q → ds.length = (["one", "other"] : List Str).length := ln_headto
theorem ok_heading_to {P : Program} {w : World} {K : Fg} {mg : Str → Option Value} {base : Heap} (T : Tx K mg) : FnOk P w K mg base CX0 7 (He.fAd K ("heading_to", none)) T.fd_heading_to ["one", "other"] (spP K f_headto) := by
  refine ok_pure T.F_heading_to sc_heading_to fm_heading_to ln_heading_to (fun cdv A outer s H E Z hr => ⟨_, (dss_cons (ds_set (i := 2) sc_heading_to.nd rfl (by first | exact Or.inl rfl | exact Or.inr rfl) (de_call (ok_distance T) fm_distance (hr.mono (by decide)) rfl T.g_distance T.F_distance.kp (b_distance T) .nil (fun _ => .nil) (da_cons (de_var 0) (da_cons (de_var 1) da_nil))))
    (dss_cons (ds_if (Dw.pt (dw_or (dt_cmp od_is (de_var 2) de_non) (dw_or1 (dt_cmp (od_eq hr.units) (de_var 2) (de_globC rfl T.c_NOUGHT)))))
    (dss_one ds_never)
    dss_nil)
    (dss_one (ds_ret (de_call (ok_scaled T) fm_scaled (hr.mono (by decide)) rfl T.g_scaled T.F_scaled.kp (b_scaled T) .nil (fun _ => .nil) (da_cons (de_call (ok_lessened T) fm_lessened (hr.mono (by decide)) rfl T.g_lessened T.F_lessened.kp (b_lessened T) .nil (fun _ => .nil) (da_cons (de_var 1) (da_cons (de_var 0) da_nil))) (da_cons (de_call (ok_over T) fm_over (hr.mono (by decide)) rfl T.g_over T.F_over.kp (b_over T) .nil (fun _ => .nil) (da_cons (de_globC rfl T.c_ONE) (da_cons (de_var 2) da_nil))) da_nil))))))), fun ds Q h => ?_⟩)
  obtain ⟨a, b, c, d, r, rfl, ⟨h1, h2, h3, h4⟩, h0, hr, hq⟩ := h
  walk_at "dl"
  rw [hr]
  walk_at "dl"
  have hb : Bd 1605 r := Bd.rt (u := (a - c) * (a - c) + (b - d) * (b - d)) (by walk_at "bd") hr
  have hb1 : Bd 1606 (1 / r) := (bd_one.div hb h0).mono (by decide)
  have hb2 := bd_one
  have hz : decide (r = ((0 : Int) : Rat)) = false := decide_eq_false (fun e => h0 (by rw [e]; rfl))
  simp only [hz, show (((1 : Int) : Rat)) = 1 from rfl]
  walk_at "sd"
theorem b_radius_of {K : Fg} {mg : Str → Option Value} (T : Tx K mg) : Binds K T.fd_radius_of ["arc"] [] := T.F_radius_of.bindsN fun _ _ _ _ _ _ us hl => match us, hl with | [_], _ => rfl
theorem fm_radius_of : FMono f_radius := fm_radius
theorem ln_radius_of : ∀ ds Q, f_radius ds Q → ds.length = (["arc"] : List Str).length := ln_radius
theorem ok_radius_of {P : Program} {w : World} {K : Fg} {mg : Str → Option Value} {base : Heap} (T : Tx K mg) : FnOk P w K mg base CX0 7 (He.fAd K ("radius_of", none)) T.fd_radius_of ["arc"] (spP K f_radius) := by
  refine ok_pure T.F_radius_of sc_radius_of fm_radius_of ln_radius_of (fun cdv A outer s H E Z hr => ⟨_, (dss_one (ds_ret (de_call (ok_distance T) fm_distance (hr.mono (by decide)) rfl T.g_distance T.F_distance.kp (b_distance T) .nil (fun _ => .nil) (da_cons (de_ix (de_var 0) de_int) (da_cons (de_ix (de_var 0) de_int) da_nil))))), fun ds Q h => ?_⟩)
  obtain ⟨a, b, c, d, e, f, w, r, rfl, ⟨⟨h1, h2, h3, h4, h5, h6⟩, hw, h0, hr⟩, hq⟩ := h
  unfold arcD
  walk_at "dl"
  rw [hr]
  walk_at "dl"
  walk_at "sd"
theorem b_heading_at {K : Fg} {mg : Str → Option Value} (T : Tx K mg) : Binds K T.fd_heading_at ["arc", "place"] [] := T.F_heading_at.bindsN fun _ _ _ _ _ _ us hl => match us, hl with | [_, _], _ => rfl
theorem fm_heading_at : FMono f_headat := fm_headat
theorem ln_heading_at : ∀ ds Q, f_headat ds Q → ds.length = (["arc", "place"] : List Str).length := ln_headat
theorem ok_heading_at {P : Program} {w : World} {K : Fg} {mg : Str → Option Value} {base : Heap} (T : Tx K mg) : FnOk P w K mg base CX0 8 (He.fAd K ("heading_at", none)) T.fd_heading_at ["arc", "place"] (spP K f_headat) := by
  refine ok_pure T.F_heading_at sc_heading_at fm_heading_at ln_heading_at (fun cdv A outer s H E Z hr => ⟨_, (dss_cons (ds_asg (de_var 0) (dg_tup (n := 5) rfl (dgs_cons (dg_name (i := 2) sc_heading_at.nd rfl (by first | exact Or.inl rfl | exact Or.inr rfl)) (dgs_cons (dg_name (i := 3) sc_heading_at.nd rfl (by first | exact Or.inl rfl | exact Or.inr rfl)) (dgs_cons (dg_name (i := 4) sc_heading_at.nd rfl (by first | exact Or.inl rfl | exact Or.inr rfl)) (dgs_cons (dg_name (i := 5) sc_heading_at.nd rfl (by first | exact Or.inl rfl | exact Or.inr rfl)) (dgs_cons (dg_name (i := 6) sc_heading_at.nd rfl (by first | exact Or.inl rfl | exact Or.inr rfl)) dgs_nil)))))))
    (dss_one (ds_ret (de_call (ok_scaled T) fm_scaled (hr.mono (by decide)) rfl T.g_scaled T.F_scaled.kp (b_scaled T) .nil (fun _ => .nil) (da_cons (de_call (ok_left_of T) fm_left_of (hr.mono (by decide)) rfl T.g_left_of T.F_left_of.kp (b_left_of T) .nil (fun _ => .nil) (da_cons (de_call (ok_lessened T) fm_lessened (hr.mono (by decide)) rfl T.g_lessened T.F_lessened.kp (b_lessened T) .nil (fun _ => .nil) (da_cons (de_var 1) (da_cons (de_var 5) da_nil))) da_nil)) (da_cons (de_call (ok_over T) fm_over (hr.mono (by decide)) rfl T.g_over T.F_over.kp (b_over T) .nil (fun _ => .nil) (da_cons (de_tup (da_cons (de_var 6) (da_cons de_int da_nil))) (da_cons (de_call (ok_radius_of T) fm_radius_of (hr.mono (by decide)) rfl T.g_radius_of T.F_radius_of.kp (b_radius_of T) .nil (fun _ => .nil) (da_cons (de_var 0) da_nil)) da_nil))) da_nil)))))), fun ds Q h => ?_⟩)
  obtain ⟨a, b, c, d, e, f, w, r, x, y, rfl, hok, ⟨hx, hy⟩, hq⟩ := h
  have hok' := hok
  obtain ⟨⟨h1, h2, h3, h4, h5, h6⟩, hw, h0, hr⟩ := hok'
  have hwb := w_bd hw
  have hbr : Bd 1605 r := Bd.rt (u := (e - a) * (e - a) + (f - b) * (f - b)) (by walk_at "bd") hr
  have hdv : Bd 1607 ((w : Rat) / r) := (hwb.div hbr h0).mono (by decide)
  unfold arcD
  walk_at "dl"
  walk_at "sd"
  refine ⟨a, b, c, d, e, f, w, r, rfl, hok, ?_⟩
  walk_at "dl"
  walk_at "sd"
theorem b_entry_cap {K : Fg} {mg : Str → Option Value} (T : Tx K mg) : Binds K T.fd_entry_cap ["entry", "pull"] [] := T.F_entry_cap.bindsN fun _ _ _ _ _ _ us hl => match us, hl with | [_, _], _ => rfl
theorem fm_entry_cap : FMono f_cap := fm2
theorem ln_entry_cap : ∀ ds Q, f_cap ds Q → ds.length = (["entry", "pull"] : List Str).length := ln2
theorem ok_entry_cap {P : Program} {w : World} {K : Fg} {mg : Str → Option Value} {base : Heap} (T : Tx K mg) : FnOk P w K mg base CX0 8 (He.fAd K ("entry_cap", none)) T.fd_entry_cap ["entry", "pull"] (spP K f_cap) := by
  refine ok_pure T.F_entry_cap sc_entry_cap fm_entry_cap ln_entry_cap (fun cdv A outer s H E Z hr => ⟨_, (dss_cons (ds_asgS (n := 3) (i := 2) rfl (de_var 0) (dgs_cons (dg_name (i := 2) sc_entry_cap.nd rfl (by first | exact Or.inl rfl | exact Or.inr rfl)) (dgs_cons (dg_name (i := 3) sc_entry_cap.nd rfl (by first | exact Or.inl rfl | exact Or.inr rfl)) (dgs_consS (dg_name (i := 4) sc_entry_cap.nd rfl (by first | exact Or.inl rfl | exact Or.inr rfl)) dgs_nil))) (by decide))
    (dss_cons (ds_if (dt_cmp (od_eq hr.units) (de_ix (de_var 2) de_int) de_str)
    (dss_one (ds_ret de_int))
    dss_nil)
    (dss_cons (ds_if (dt_cmp (od_eq hr.units) (de_ix (de_var 2) de_int) de_str)
    (dss_one (ds_ret (de_var 3)))
    dss_nil)
    (dss_one (ds_ret (de_call (ok_greatest_gear T) fm_greatest_gear (hr.mono (by decide)) rfl T.g_greatest_gear T.F_greatest_gear.kp (b_greatest_gear T) .nil (fun _ => .nil) (da_cons (de_var 3) (da_cons (de_globC rfl T.c_ONE) (da_cons (de_call (ok_times T) fm_times (hr.mono (by decide)) rfl T.g_times T.F_times.kp (b_times T) .nil (fun _ => .nil) (da_cons (de_var 1) (da_cons (de_call (ok_radius_of T) fm_radius_of (hr.mono (by decide)) rfl T.g_radius_of T.F_radius_of.kp (b_radius_of T) .nil (fun _ => .nil) (da_cons (de_var 2) da_nil)) da_nil))) da_nil))))))))), fun ds Q h => ?_⟩)
  obtain ⟨t, pl, rfl, ⟨ht, h0, hb⟩, hq⟩ := h
  obtain ⟨e, pace, num⟩ := t
  obtain ⟨he, hp, hn⟩ := ht
  have hq : Q (Res.d (PyData.int (capOf pl ⟨e, pace, num⟩))) := hq
  rcases e with ⟨b, f⟩ | ⟨⟨b, f⟩ | ⟨b, f, o, w⟩, r⟩
  · simp only [etD, stD]
    walk_at "dl"
    simp only [List.take_succ_cons, List.take_zero, List.drop_succ_cons, List.drop_zero, List.cons_append, List.nil_append]
    walk_at "dl"
    exact hq
  · simp only [etD, stD, cD, lineD]
    walk_at "dl"
    simp only [List.take_succ_cons, List.take_zero, List.drop_succ_cons, List.drop_zero, List.cons_append, List.nil_append]
    walk_at "dl"
    exact hq
  · simp only [etD, stD, cD, arcD]
    walk_at "dl"
    simp only [List.take_succ_cons, List.take_zero, List.drop_succ_cons, List.drop_zero, List.cons_append, List.nil_append]
    walk_at "dl"
    have r0 : 0 < r := he.1.2.2.1
    have hr : Bd 30 r := he.2.1
    refine ⟨_, _, _, _, _, _, _, r, rfl, ct_arcOk he.1 (by decide), ?_⟩
    walk_at "dl"
    refine ⟨hb.mono (by decide), hr.mono (by decide), hp.1, hp.2, Rat.mul_nonneg h0 (by grind), Bd.int (by decide) (by decide), (hb.mul hr).mono (by decide), ?_⟩
    rw [show (((1 : Int) : Rat)) = 1 from rfl]
    exact hq
theorem b_headings {K : Fg} {mg : Str → Option Value} (T : Tx K mg) : Binds K T.fd_headings ["cut"] [] := T.F_headings.bindsN fun _ _ _ _ _ _ us hl => match us, hl with | [_], _ => rfl
theorem fm_headings : FMono f_headings := fmx_headings
theorem ln_headings : ∀ ds Q, f_headings ds Q → ds.length = (["cut"] : List Str).length := lnx_headings
theorem ok_headings {P : Program} {w : World} {K : Fg} {mg : Str → Option Value} {base : Heap} (T : Tx K mg) : FnOk P w K mg base CX0 9 (He.fAd K ("headings", none)) T.fd_headings ["cut"] (spP K f_headings) := by
  refine ok_pure T.F_headings sc_headings fm_headings ln_headings (fun cdv A outer s H E Z hr => ⟨_, (dss_cons (ds_if (dt_cmp (od_eq hr.units) (de_ix (de_var 0) de_int) de_str)
    (dss_cons (ds_set (i := 1) sc_headings.nd rfl (by first | exact Or.inl rfl | exact Or.inr rfl) (de_call (ok_heading_to T) fm_heading_to (hr.mono (by decide)) rfl T.g_heading_to T.F_heading_to.kp (b_heading_to T) .nil (fun _ => .nil) (da_cons (de_ix (de_var 0) de_int) (da_cons (de_ix (de_var 0) de_int) da_nil))))
    (dss_one (ds_ret (de_tup (da_cons (de_var 1) (da_cons (de_var 1) da_nil))))))
    dss_nil)
    (dss_one (ds_ret (de_tup (da_cons (de_call (ok_heading_at T) fm_heading_at (hr.mono (by decide)) rfl T.g_heading_at T.F_heading_at.kp (b_heading_at T) .nil (fun _ => .nil) (da_cons (de_var 0) (da_cons (de_ix (de_var 0) de_int) da_nil))) (da_cons (de_call (ok_heading_at T) fm_heading_at (hr.mono (by decide)) rfl T.g_heading_at T.F_heading_at.kp (b_heading_at T) .nil (fun _ => .nil) (da_cons (de_var 0) (da_cons (de_ix (de_var 0) de_int) da_nil))) da_nil)))))), fun ds Q h => ?_⟩)
  rcases h with ⟨a, b, c, d, r, rfl, hb, h0, hr, hq⟩ | ⟨a, b, c, d, e, f, w, r, rfl, hok, hq⟩
  · walk_at "dl"
    first | exact ⟨sh_str, sh_str, a, b, c, d, r, rfl, hb, h0, hr, hq⟩ | exact ⟨a, b, c, d, r, rfl, hb, h0, hr, hq⟩
  · unfold arcD
    walk_at "dl"
    first | exact ⟨sh_str, sh_str, a, b, c, d, e, f, w, r, a, b, rfl, hok, ⟨hok.1.1, hok.1.2.1⟩, a, b, c, d, e, f, w, r, c, d, rfl, hok, ⟨hok.1.2.2.1, hok.1.2.2.2.1⟩, hq⟩ | exact ⟨a, b, c, d, e, f, w, r, a, b, rfl, hok, ⟨hok.1.1, hok.1.2.1⟩, a, b, c, d, e, f, w, r, c, d, rfl, hok, ⟨hok.1.2.2.1, hok.1.2.2.2.1⟩, hq⟩
theorem b_jolt_cap {K : Fg} {mg : Str → Option Value} (T : Tx K mg) : Binds K T.fd_jolt_cap ["ahead", "behind", "jolt"] [] := T.F_jolt_cap.bindsN fun _ _ _ _ _ _ us hl => match us, hl with | [_, _, _], _ => rfl
theorem fm_jolt_cap : FMono f_jolt := fm_jolt
theorem ln_jolt_cap : ∀ ds Q, f_jolt ds Q → ds.length = (["ahead", "behind", "jolt"] : List Str).length := ln_jolt
theorem ok_jolt_cap {P : Program} {w : World} {K : Fg} {mg : Str → Option Value} {base : Heap} (T : Tx K mg) : FnOk P w K mg base CX0 10 (He.fAd K ("jolt_cap", none)) T.fd_jolt_cap ["ahead", "behind", "jolt"] (spP K f_jolt) := by
  refine ok_pure T.F_jolt_cap sc_jolt_cap fm_jolt_cap ln_jolt_cap (fun cdv A outer s H E Z hr => ⟨_, (dss_cons (ds_if (Dw.pt (dw_or (dt_cmp (od_eq hr.units) (de_ix (de_var 0) de_int) de_str) (dw_or1 (dt_cmp (od_eq hr.units) (de_ix (de_var 1) de_int) de_str))))
    (dss_one (ds_ret de_int))
    dss_nil)
    (dss_cons (ds_par (i := 3) (j := 4) rfl sc_jolt_cap.nd rfl rfl (by decide) rfl rfl (da_cons (de_ix (de_call (ok_headings T) fm_headings (hr.mono (by decide)) rfl T.g_headings T.F_headings.kp (b_headings T) .nil (fun _ => .nil) (da_cons (de_var 0) da_nil)) de_int) (da_cons (de_ix (de_call (ok_headings T) fm_headings (hr.mono (by decide)) rfl T.g_headings T.F_headings.kp (b_headings T) .nil (fun _ => .nil) (da_cons (de_var 1) da_nil)) de_int) da_nil)) (fun _ h => ps_par rfl sc_jolt_cap.nd rfl rfl (by decide) rfl rfl h (by rfl)))
    (dss_cons (ds_if (dt_cmp (od_eq hr.units) (de_var 3) (de_var 4))
    (dss_one (ds_ret (de_globC rfl T.c_MOST_GEAR)))
    dss_nil)
    (dss_one (ds_ret (de_call (ok_greatest_gear T) fm_greatest_gear (hr.mono (by decide)) rfl T.g_greatest_gear T.F_greatest_gear.kp (b_greatest_gear T) .nil (fun _ => .nil) (da_cons (de_globC rfl T.c_MOST_GEAR) (da_cons (de_call (ok_minus T) fm_minus (hr.mono (by decide)) rfl T.g_minus T.F_minus.kp (b_minus T) .nil (fun _ => .nil) (da_cons (de_globC rfl T.c_TWO) (da_cons (de_call (ok_times T) fm_times (hr.mono (by decide)) rfl T.g_times T.F_times.kp (b_times T) .nil (fun _ => .nil) (da_cons (de_globC rfl T.c_TWO) (da_cons (de_call (ok_dot T) fm_dot (hr.mono (by decide)) rfl T.g_dot T.F_dot.kp (b_dot T) .nil (fun _ => .nil) (da_cons (de_var 3) (da_cons (de_var 4) da_nil))) da_nil))) da_nil))) (da_cons (de_call (ok_times T) fm_times (hr.mono (by decide)) rfl T.g_times T.F_times.kp (b_times T) .nil (fun _ => .nil) (da_cons (de_var 2) (da_cons (de_var 2) da_nil))) da_nil))))))))), fun ds Q h => ?_⟩)
  obtain ⟨a, b, jt, rfl, ⟨ha, hb, h0, hj⟩, hq⟩ := h
  have hjj : Bd 200 (jt * jt) := (hj.mul hj).mono (by decide)
  have hj0 : 0 ≤ jt * jt := Rat.mul_nonneg (by grind) (by grind)
  rcases a with ⟨b1, f1⟩ | ⟨c1, r1⟩
  · simp only [stD]
    walk_at "dl"
    exact hq
  rcases b with ⟨b2, f2⟩ | ⟨c2, r2⟩
  · rcases c1 with ⟨b1, f1⟩ | ⟨b1, f1, o1, w1⟩ <;> simp only [stD, cD, lineD, arcD] <;> walk_at "dl" <;> exact hq
  obtain ⟨hok1, hr1, hu0, ⟨hu1, hu2⟩⟩ := ha
  obtain ⟨hok2, hr2, ⟨hv1, hv2⟩, hv3⟩ := hb
  have hq : Q (Res.d (.int (if hd1 r1 c1 = hd0 r2 c2 then 9 else ((gearN 9 (2 - 2 * dotR (hd1 r1 c1) (hd0 r2 c2)) (jt * jt) : Nat) : Int)))) := hq
  have g1 : ∀ K : Res → Prop, K (.d (.tuple [plD (hd0 r1 c1), plD (hd1 r1 c1)])) → f_headings [cD c1] K := fun K k => headings_ap hok1 (by decide) k
  have g2 : ∀ K : Res → Prop, K (.d (.tuple [plD (hd0 r2 c2), plD (hd1 r2 c2)])) → f_headings [cD c2] K := fun K k => headings_ap hok2 (by decide) k
  generalize hd1 r1 c1 = u at hu1 hu2 g1 hq
  generalize hd0 r2 c2 = v at hv1 hv2 g2 hq
  generalize hd0 r1 c1 = u' at g1
  generalize hd1 r2 c2 = v' at g2
  obtain ⟨u1, u2⟩ := u
  obtain ⟨v1, v2⟩ := v
  obtain ⟨bu1, bu2⟩ := hu2
  obtain ⟨bv1, bv2⟩ := hv2
  simp only [plD] at g1 g2 bu1 bu2 bv1 bv2
  have b2 : Bd 10 (2 : Rat) := Bd.int (n := 10) (i := 2) (by decide) (by decide)
  have e2 : (((2 : Int) : Rat)) = 2 := rfl
  rcases c1 with ⟨b1, f1⟩ | ⟨b1, f1, o1, w1⟩ <;> rcases c2 with ⟨b3, f3⟩ | ⟨b3, f3, o3, w3⟩ <;>
    (simp only [stD, cD, lineD, arcD] at g1 g2 ⊢
     walk_at "dl"
     refine g1 _ ?_
     walk_at "dl"
     refine g2 _ ?_
     walk_at "dl"
     by_cases hc : u1 = v1 ∧ u2 = v2
     · obtain ⟨rfl, rfl⟩ := hc
       simp only [decide_true, Bool.and_true]
       rw [if_pos rfl] at hq
       exact hq
     · have hd : (decide (u1 = v1) && decide (u2 = v2)) = false := by
         rw [← Bool.decide_and]
         exact decide_eq_false hc
       rw [hd, if_neg (fun e => hc ⟨congrArg Prod.fst e, congrArg Prod.snd e⟩)] at *
       simp only [e2]
       walk_at "sd"
       all_goals first | decide | assumption)
theorem b_joint_cap {K : Fg} {mg : Str → Option Value} (T : Tx K mg) : Binds K T.fd_joint_cap ["ahead", "behind", "pull", "jolt"] [] := T.F_joint_cap.bindsN fun _ _ _ _ _ _ us hl => match us, hl with | [_, _, _, _], _ => rfl
theorem fm_joint_cap : FMono f_jcap := fm_jcap
theorem ln_joint_cap : ∀ ds Q, f_jcap ds Q → ds.length = (["ahead", "behind", "pull", "jolt"] : List Str).length := ln_jcap
theorem ok_joint_cap {P : Program} {w : World} {K : Fg} {mg : Str → Option Value} {base : Heap} (T : Tx K mg) : FnOk P w K mg base CX0 11 (He.fAd K ("joint_cap", none)) T.fd_joint_cap ["ahead", "behind", "pull", "jolt"] (spP K f_jcap) := by
  refine ok_pure T.F_joint_cap sc_joint_cap fm_joint_cap ln_joint_cap (fun cdv A outer s H E Z hr => ⟨_, (dss_one (ds_ret (de_b (cd_min3 rfl) rfl T.m_min bb_min (da_cons (de_call (ok_entry_cap T) fm_entry_cap (hr.mono (by decide)) rfl T.g_entry_cap T.F_entry_cap.kp (b_entry_cap T) .nil (fun _ => .nil) (da_cons (de_var 0) (da_cons (de_var 2) da_nil))) (da_cons (de_call (ok_entry_cap T) fm_entry_cap (hr.mono (by decide)) rfl T.g_entry_cap T.F_entry_cap.kp (b_entry_cap T) .nil (fun _ => .nil) (da_cons (de_var 1) (da_cons (de_var 2) da_nil))) (da_cons (de_call (ok_jolt_cap T) fm_jolt_cap (hr.mono (by decide)) rfl T.g_jolt_cap T.F_jolt_cap.kp (b_jolt_cap T) .nil (fun _ => .nil) (da_cons (de_ix (de_var 0) de_int) (da_cons (de_ix (de_var 1) de_int) (da_cons (de_var 3) da_nil)))) da_nil)))))), fun ds Q h => ?_⟩)
  obtain ⟨a, b, pl, jt, rfl, ⟨ha, hb, ⟨h1, h2⟩, h3, h4⟩, hq⟩ := h
  have hq : Q (Res.d (PyData.int (min (min (capOf pl a) (capOf pl b)) (joltOf jt a.e b.e)))) := hq
  obtain ⟨ea, pa, na⟩ := a
  obtain ⟨eb, pb, nb⟩ := b
  walk_at "dl"
  refine ⟨_, _, rfl, ⟨ha, by grind, h2⟩, ?_⟩
  walk_at "dl"
  refine ⟨_, _, rfl, ⟨hb, by grind, h2⟩, ?_⟩
  simp only [etD]
  walk_at "dl"
  refine ⟨_, _, _, rfl, ⟨ha.1, hb.1, h3, h4⟩, ?_⟩
  walk_at "dl"
  exact hq
theorem bx_joint_caps_1 {K : Fg} {mg : Str → Option Value} (T : Tx K mg) : ∃ ds, Vals [V.ref (He.ga K "PULL"), V.ref (He.ga K "JOLT")] ds ∧ Binds K T.fd_joint_caps ["way", "pull", "jolt"] ds := T.F_joint_caps.binds0 1 (List.cons_ne_nil _ _) rfl (fun D doc pm an cdv ct us ks h1 h2 => match us, ks, h1, h2 with | [_], [_, _], _, _ => ⟨_, _, _, _, _, _, rfl, rfl, ⟨_, _, _, _, _, _, rfl, rfl, rfl⟩⟩)
theorem b_joint_caps_1 {K : Fg} {mg : Str → Option Value} (T : Tx K mg) : Vals [V.ref (He.ga K "PULL"), V.ref (He.ga K "JOLT")] (Classical.choose (bx_joint_caps_1 T)) ∧ Binds K T.fd_joint_caps ["way", "pull", "jolt"] (Classical.choose (bx_joint_caps_1 T)) := Classical.choose_spec (bx_joint_caps_1 T)
theorem dd_joint_caps_1 {K : Fg} {mg : Str → Option Value} (T : Tx K mg) : ∀ H, DL.DpAll K H [V.ref (He.ga K "PULL"), V.ref (He.ga K "JOLT")] [(PyData.tuple [(PyData.int 2), (PyData.int 1)]), (PyData.tuple [(PyData.int 1), (PyData.int 1)])] := fun H => (.cons (cst_ref T.c_PULL T.gc_PULL H) (.cons (cst_ref T.c_JOLT T.gc_JOLT H) .nil))
theorem b_joint_caps_1_jolt {K : Fg} {mg : Str → Option Value} (T : Tx K mg) : ∃ mv : List Value, KBn K T.fd_joint_caps ["way", "pull", "jolt"] 1 ["jolt"] (fun us ws => us ++ List.map (fun i => (mv ++ ws).getD i .none) [0, 1]) (fun vs zs => vs ++ List.map (fun i => (List.map (·.2) ([("pull", V.ref (He.ga K "PULL"))] : List (Str × V)) ++ zs).getD i .non) [0, 1]) := kbM T.F_joint_caps 1 ["jolt"] [("pull", V.ref (He.ga K "PULL"))] [0, 1] (List.cons_ne_nil _ _) (by intro q hq; simp only [List.mem_cons, List.not_mem_nil, or_false] at hq ⊢; rcases hq with rfl <;> simp) (fun D doc pm an cdv ct us mv ws h1 h2 h3 => match us, mv, ws, h1, h2, h3 with | [_], [_], [_], _, _, _ => ⟨_, _, _, _, _, _, rfl, rfl, rfl⟩)
theorem dl_joint_caps_1_jolt {K : Fg} {mg : Str → Option Value} (T : Tx K mg) : ∀ H, DL.DpAll K H (List.map (·.2) ([("pull", V.ref (He.ga K "PULL"))] : List (Str × V))) [(PyData.tuple [(PyData.int 2), (PyData.int 1)])] := fun H => (.cons (cst_ref T.c_PULL T.gc_PULL H) .nil)
theorem b_joint_caps_1_jolt_pull {K : Fg} {mg : Str → Option Value} (T : Tx K mg) : KBn K T.fd_joint_caps ["way", "pull", "jolt"] 1 ["jolt", "pull"] (fun us ws => us ++ List.map (fun i => ws.getD i .none) [1, 0]) (fun vs zs => vs ++ List.map (fun i => zs.getD i .non) [1, 0]) := kbP T.F_joint_caps 1 ["jolt", "pull"] [1, 0] (fun kV doc pm an cdv ct us ws h1 h2 => match us, ws, h1, h2 with | [_], [_, _], _, _ => rfl)
theorem b_joint_caps_1_pull {K : Fg} {mg : Str → Option Value} (T : Tx K mg) : ∃ mv : List Value, KBn K T.fd_joint_caps ["way", "pull", "jolt"] 1 ["pull"] (fun us ws => us ++ List.map (fun i => (mv ++ ws).getD i .none) [1, 0]) (fun vs zs => vs ++ List.map (fun i => (List.map (·.2) ([("jolt", V.ref (He.ga K "JOLT"))] : List (Str × V)) ++ zs).getD i .non) [1, 0]) := kbM T.F_joint_caps 1 ["pull"] [("jolt", V.ref (He.ga K "JOLT"))] [1, 0] (List.cons_ne_nil _ _) (by intro q hq; simp only [List.mem_cons, List.not_mem_nil, or_false] at hq ⊢; rcases hq with rfl <;> simp) (fun D doc pm an cdv ct us mv ws h1 h2 h3 => match us, mv, ws, h1, h2, h3 with | [_], [_], [_], _, _, _ => ⟨_, _, _, _, _, _, rfl, rfl, rfl⟩)
theorem dl_joint_caps_1_pull {K : Fg} {mg : Str → Option Value} (T : Tx K mg) : ∀ H, DL.DpAll K H (List.map (·.2) ([("jolt", V.ref (He.ga K "JOLT"))] : List (Str × V))) [(PyData.tuple [(PyData.int 1), (PyData.int 1)])] := fun H => (.cons (cst_ref T.c_JOLT T.gc_JOLT H) .nil)
theorem fm_joint_caps : FMono f_jcaps := fm_jcaps
theorem ln_joint_caps : ∀ ds Q, f_jcaps ds Q → ds.length = (["way", "pull", "jolt"] : List Str).length := ln_jcaps
theorem ok_joint_caps {P : Program} {w : World} {K : Fg} {mg : Str → Option Value} {base : Heap} (T : Tx K mg) : FnOk P w K mg base CX0 12 (He.fAd K ("joint_caps", none)) T.fd_joint_caps ["way", "pull", "jolt"] (spP K f_jcaps) := by
  refine ok_pure T.F_joint_caps sc_joint_caps fm_joint_caps ln_joint_caps (fun cdv A outer s H E Z hr => ⟨_, (dss_cons (ds_if (dt_cmp (od_eq hr.units) (de_var 0) (Do.sh (do_lst da_nil)))
    (dss_one (ds_retO (do_lst (da_cons de_int da_nil))))
    dss_nil)
    (dss_cons (ds_setLc (i := 3) [("ahead", 4), ("behind", 5)] rfl sc_joint_caps.nd rfl rfl (sw_true rfl rfl rfl (by decide +kernel)) (di_zip rfl T.m_zip (da_cons (de_var 0) (da_cons (de_sl (de_var 0) (dpo_some de_int) dpo_none) da_nil))) (blkOk_by (own := [("ahead", 4), ("behind", 5)]) (N := ["way", "pull", "jolt", "inner", "ahead", "behind"]) (sc := defScope s_joint_caps) (by decide +kernel)) (fun _ _ _ _ _ _ => (dg_tup (n := 2) rfl (dgs_cons (dg_name (i := 4) sc_joint_caps.nd rfl (by first | exact Or.inl rfl | exact Or.inr rfl)) (dgs_cons (dg_name (i := 5) sc_joint_caps.nd rfl (by first | exact Or.inl rfl | exact Or.inr rfl)) dgs_nil)))) (fun _ _ _ _ _ _ => dts_nil) (fun _ _ _ _ _ _ => (de_call (ok_joint_cap T) fm_joint_cap (hr.mono (by decide)) rfl T.g_joint_cap T.F_joint_cap.kp (b_joint_cap T) .nil (fun _ => .nil) (da_cons (de_var 4) (da_cons (de_var 5) (da_cons (de_var 1) (da_cons (de_var 2) da_nil)))))))
    (dss_one (ds_retO (do_add (de_op od_addA (Do.sh (do_lst (da_cons de_int da_nil))) (de_var 3)) (Do.sh (do_lst (da_cons de_int da_nil)))))))), fun ds Q h => ?_⟩)
  obtain ⟨ts, pl, jt, rfl, ⟨ht, hl, ⟨h1, h2⟩, h3, h4⟩, hq⟩ := h
  have gd := ets_gd ht
  have she := gd.sh (by decide)
  cases ts with
  | nil =>
    walk_at "dl"
    exact ⟨rfl, rfl, hq⟩
  | cons t0 tr =>
    refine seq_k fun K hK => ?_
    walk_at "dl"
    refine ⟨she, rfl, ?_⟩
    have e0 : PyData.eqvAll (etD t0 :: List.map etD tr) [] = false := rfl
    rw [e0]
    refine hK _ ?_
    refine seq_k fun K hK => ?_
    walk_at "dl"
    have ec : cutD (etD t0 :: List.map etD tr) (some 1) none = List.map etD tr := by
      rw [cut_from (by decide)]
      rfl
    rw [ec]
    refine lc_at (fun j acc δ => δ = [some (Sl.sh (PyData.list (etD t0 :: List.map etD tr))), some (Sl.sh (numD pl)), some (Sl.sh (numD jt)), none, none, none] ∧ acc = lf j (fun i => jcaps pl jt (t0 :: tr) (i + 1))) _ ⟨rfl, rfl⟩ ?_ ?_
    · rintro U hU j d acc δ hj ⟨rfl, rfl⟩
      have hj2 := get_lt hj
      rw [zipD_len, List.length_cons, List.length_map, Nat.min_eq_right (by omega)] at hj2
      obtain ⟨x, ex⟩ : ∃ x, (t0 :: tr)[j]? = some x := ⟨_, List.getElem?_eq_getElem (by rw [List.length_cons]; omega)⟩
      obtain ⟨y, ey⟩ : ∃ y, tr[j]? = some y := ⟨_, List.getElem?_eq_getElem hj2⟩
      have hz := zipD_get (xs := List.map etD (t0 :: tr)) (ys := List.map etD tr) (i := j) (by rw [List.getElem?_map, ex]; rfl) (by rw [List.getElem?_map, ey]; rfl)
      have hz : (zipD (etD t0 :: List.map etD tr) (List.map etD tr))[j]? = _ := hz
      rw [hz] at hj
      cases hj
      walk_at "dl"
      refine ⟨x, y, pl, jt, rfl, ⟨ht x (List.mem_of_getElem? ex), ht y (List.mem_cons_of_mem _ (List.mem_of_getElem? ey)), ⟨h1, h2⟩, h3, h4⟩, ?_⟩
      have hl' : tr.length + 1 ≤ 400 := hl
      refine ⟨by rw [lf_len]; omega, hU _ _ _ ⟨rfl, ?_⟩⟩
      refine lf_ext (by rw [List.length_append, lf_len]; rfl) fun i hi => ?_
      rcases Nat.lt_or_ge i j with z | z
      · rw [List.getElem?_append_left (by rw [lf_len]; exact z), lf_get z]
      · have e : i = j := by omega
        subst e
        rw [List.getElem?_append_right (by rw [lf_len]; exact Nat.le_refl _), lf_len, Nat.sub_self]
        have ej : jcaps pl jt (t0 :: tr) (i + 1) = jcap pl jt x y := by
          show (match (t0 :: tr)[i]?, (t0 :: tr)[i + 1]? with | some a, some b => jcap pl jt a b | _, _ => 0) = _
          rw [ex, show (t0 :: tr)[i + 1]? = some y from ey]
        rw [ej]
        rfl
    · rintro acc δ ⟨rfl, rfl⟩
      rw [zipD_len, List.length_cons, List.length_map, Nat.min_eq_right (by omega)]
      have hl' : tr.length + 1 ≤ 400 := hl
      refine hK _ ?_
      walk_at "dl"
      simp only [dCat]
      walk_at "dl"
      simp only [lf_len]
      refine ⟨by omega, by omega, ?_⟩
      rw [jc_list (ts := t0 :: tr) rfl]
      exact hq
theorem b_law {K : Fg} {mg : Str → Option Value} (T : Tx K mg) : Binds K T.fd_law ["_law_script"] [] := T.F_law.bindsN fun _ _ _ _ _ _ us hl => match us, hl with | [_], _ => rfl
theorem fm_law : FMono f_law := DL.fm_law
theorem ln_law : ∀ ds Q, f_law ds Q → ds.length = (["_law_script"] : List Str).length := DL.ln_law
theorem ok_law {P : Program} {w : World} {K : Fg} {mg : Str → Option Value} {base : Heap} (T : Tx K mg) : FnOk P w K mg base CX0 13 (He.fAd K ("law", none)) T.fd_law ["_law_script"] (spP K f_law) := by
  refine ok_pure T.F_law sc_law fm_law ln_law (fun cdv A outer s H E Z hr => ⟨_, (dss_cons (ds_for PassesOwn.never rfl (di_range1 rfl T.m_range (da_cons (de_b (cd_max rfl) rfl T.m_max bb_max (da_cons de_int (da_cons (de_b (cd_min rfl) rfl T.m_min bb_min (da_cons de_int (da_cons (de_b cd_len rfl T.m_len bb_len (da_cons (de_var 0) da_nil)) da_nil))) da_nil))) da_nil)) (dg_name (i := 1) sc_law.nd rfl (by first | exact Or.inl rfl | exact Or.inr rfl))
    (dss_cons (ds_setO (i := 2) sc_law.nd rfl (by first | exact Or.inl rfl | exact Or.inr rfl) (do_call (ok__law_bag T) fm__law_bag (hr.mono (by decide)) rfl T.g__law_bag T.F__law_bag.kp (b__law_bag T) .nil (fun _ => .nil) (da_cons (de_var 0) (da_cons (de_var 1) da_nil))))
    (dss_cons (ds_asg (de_callB 2 (ok__law_sizes T) bm__law_sizes (hr.mono (by decide)) rfl T.g__law_sizes T.F__law_sizes.kp (b__law_sizes T) da_nil) (dg_tup (n := 2) rfl (dgs_cons (dg_name (i := 6) sc_law.nd rfl (by first | exact Or.inl rfl | exact Or.inr rfl)) (dgs_cons (dg_name (i := 7) sc_law.nd rfl (by first | exact Or.inl rfl | exact Or.inr rfl)) dgs_nil))))
    (dss_cons (ds_asg (de_callB 2 (ok__law_way T) bm__law_way (hr.mono (by decide)) rfl T.g__law_way T.F__law_way.kp (b__law_way T) (da_cons (de_var 6) (da_cons (de_var 7) da_nil))) (dg_tup (n := 2) rfl (dgs_cons (dg_name (i := 8) sc_law.nd rfl (by first | exact Or.inl rfl | exact Or.inr rfl)) (dgs_cons (dg_name (i := 9) sc_law.nd rfl (by first | exact Or.inl rfl | exact Or.inr rfl)) dgs_nil))))
    (dss_cons (ds_par (i := 10) (j := 11) rfl sc_law.nd rfl rfl (by decide) rfl rfl (da_cons (de_callB 2 (ok__law_pull T) bm__law_pull (hr.mono (by decide)) rfl T.g__law_pull T.F__law_pull.kp (b__law_pull T) (da_cons (de_var 8) (da_cons (de_var 9) da_nil))) (da_cons (de_callB 2 (ok__law_jolt T) bm__law_jolt (hr.mono (by decide)) rfl T.g__law_jolt T.F__law_jolt.kp (b__law_jolt T) da_nil) da_nil)) (fun _ h => ps_par rfl sc_law.nd rfl rfl (by decide) rfl rfl h (by rfl)))
    (dss_cons (ds_set (i := 3) sc_law.nd rfl (by first | exact Or.inl rfl | exact Or.inr rfl) (Do.sh (do_lst (da_cons (de_call (ok__law_joint_caps T) fm__law_joint_caps (hr.mono (by decide)) rfl T.g__law_joint_caps T.F__law_joint_caps.kp (b__law_joint_caps T) .nil (fun _ => .nil) (da_cons (de_var 8) (da_cons (de_var 9) (da_cons (de_var 10) (da_cons (de_var 11) da_nil))))) (da_cons (de_call (ok__law_joint_caps T) fm__law_joint_caps (hr.mono (by decide)) rfl T.g__law_joint_caps T.F__law_joint_caps.kp (b__law_joint_caps T) .nil (fun _ => .nil) (da_cons (de_var 8) (da_cons (de_var 9) (da_cons (de_tup (da_cons de_int (da_cons de_int da_nil))) (da_cons (de_var 11) da_nil))))) da_nil)))))
    (dss_cons (ds_set (i := 3) sc_law.nd rfl (by first | exact Or.inl rfl | exact Or.inr rfl) (de_op od_addA (de_var 3) (Do.sh (do_lst (da_cons (de_call (ok__law_joint_caps T) fm__law_joint_caps (hr.mono (by decide)) rfl T.g__law_joint_caps T.F__law_joint_caps.kp (b__law_joint_caps T) .nil (fun _ => .nil) (da_cons (de_var 8) (da_cons (de_var 9) (da_cons (de_var 10) (da_cons (de_tup (da_cons de_int (da_cons de_int da_nil))) da_nil))))) (da_cons (de_call (ok__law_joint_caps T) fm__law_joint_caps (hr.mono (by decide)) rfl T.g__law_joint_caps T.F__law_joint_caps.kp (b__law_joint_caps T) .nil (fun _ => .nil) (da_cons (de_var 8) (da_cons (de_var 9) (da_cons (de_tup (da_cons de_int (da_cons de_int da_nil))) (da_cons (de_tup (da_cons de_int (da_cons de_int da_nil))) da_nil))))) da_nil))))))
    (dss_cons (ds_set (i := 4) sc_law.nd rfl (by first | exact Or.inl rfl | exact Or.inr rfl) (Do.sh (do_list rfl T.m_list bt_list (da_cons (de_var 8) da_nil))))
    (dss_one (ds_for PassesOwn.never rfl (di_range1 rfl T.m_range (da_cons de_int da_nil)) (dg_name (i := 5) sc_law.nd rfl (by first | exact Or.inl rfl | exact Or.inr rfl))
    (dss_cons (ds_setB (i := 12) sc_law.nd rfl (by first | exact Or.inl rfl | exact Or.inr rfl) (db_two (do_callN (gD := fun ds es => ds ++ List.map (fun i => es.getD i .none) [1, 0]) (ok_joint_caps T) fm_joint_caps (hr.mono (by decide)) rfl T.g_joint_caps T.F_joint_caps.kp (b_joint_caps_1_jolt_pull T) (fun _ _ _ _ _ h1 h2 => h1.app (dp_perm h2 _)) (da_cons (de_var 4) da_nil) (dk_cons (de_var 11) (dk_cons (de_var 10) dk_nil))) (fun _ => do_callN (gD := fun ds es => ds ++ List.map (fun i => ([(PyData.tuple [(PyData.int 2), (PyData.int 1)])] ++ es).getD i .none) [0, 1]) (ok_joint_caps T) fm_joint_caps (hr.mono (by decide)) rfl T.g_joint_caps T.F_joint_caps.kp (Classical.choose_spec (b_joint_caps_1_jolt T)) (fun H _ _ _ _ h1 h2 => h1.app (dp_perm ((dl_joint_caps_1_jolt T H).app h2) _)) (da_cons (de_var 4) da_nil) (dk_cons (de_var 11) dk_nil))))
    (dss_cons (ds_addB (i := 12) sc_law.nd rfl (by first | exact Or.inl rfl | exact Or.inr rfl) (db_two (do_callN (gD := fun ds es => ds ++ List.map (fun i => ([(PyData.tuple [(PyData.int 1), (PyData.int 1)])] ++ es).getD i .none) [1, 0]) (ok_joint_caps T) fm_joint_caps (hr.mono (by decide)) rfl T.g_joint_caps T.F_joint_caps.kp (Classical.choose_spec (b_joint_caps_1_pull T)) (fun H _ _ _ _ h1 h2 => h1.app (dp_perm ((dl_joint_caps_1_pull T H).app h2) _)) (da_cons (de_var 4) da_nil) (dk_cons (de_var 10) dk_nil)) (fun _ => do_call (ok_joint_caps T) fm_joint_caps (hr.mono (by decide)) rfl T.g_joint_caps T.F_joint_caps.kp (b_joint_caps_1 T).2 (b_joint_caps_1 T).1 (dd_joint_caps_1 T) (da_cons (de_var 4) da_nil))))
    (dss_cons (ds_if (Dw.pt (dw_or (dt_not (dt_val (de_lendN 12 (fun _ => (de_b (cd_all rfl) rfl T.m_all bb_all (da_cons (Do.sh (do_lc [("_law_one", 13), ("_law_due", 14)] rfl sc_law.nd (di_zip rfl T.m_zip (da_cons (de_var 12) (da_cons (de_var 3) da_nil))) (blkOk_by (own := [("_law_one", 13), ("_law_due", 14)]) (N := ["_law_script", "_law_at", "_law_bag_here", "_law_dues", "_law_handed", "_law_again", "_law_most", "_law_wide", "_law_entries", "_law_facts", "_law_drag", "_law_jerk", "_law_told", "_law_one", "_law_due"]) (sc := defScope s_law) (by decide +kernel)) (fun _ _ _ _ _ _ => (dg_tup (n := 2) rfl (dgs_cons (dg_name (i := 13) sc_law.nd rfl (by first | exact Or.inl rfl | exact Or.inr rfl)) (dgs_cons (dg_name (i := 14) sc_law.nd rfl (by first | exact Or.inl rfl | exact Or.inr rfl)) dgs_nil)))) (fun _ _ _ _ _ _ => dts_nil) (fun _ _ _ _ _ _ => (de_call (ok__law_are_gears T) fm__law_are_gears (hr.mono (by decide)) rfl T.g__law_are_gears T.F__law_are_gears.kp (b__law_are_gears T) .nil (fun _ => .nil) (da_cons (de_var 13) (da_cons (de_var 14) da_nil)))))) da_nil)))))) (dw_or1 (dt_cmp (od_ne hr.units) (de_var 4) (de_var 8)))))
    (dss_one (ds_ret de_bl))
    dss_nil)
    (dss_one (ds_forN (i := 12) (j := 13) (c := .int 0) PassesOwn.never rfl (by decide) (fun _ => .int _) (pe_var rfl (by first | exact Or.inl rfl | exact Or.inr (Or.inl rfl) | exact Or.inr (Or.inr rfl))) (pg_name sc_law.nd rfl (by first | exact Or.inl rfl | exact Or.inr rfl)) (pss_apprev pe_int rfl))))))))))))))))
    (dss_one (ds_ret (de_cmp (od_eq hr.units) (de_call (ok_joint_caps T) fm_joint_caps (hr.mono (by decide)) rfl T.g_joint_caps T.F_joint_caps.kp (b_joint_caps_1 T).2 (b_joint_caps_1 T).1 (dd_joint_caps_1 T) (da_cons (Do.sh (do_lst da_nil)) da_nil)) (Do.sh (do_lst (da_cons de_int da_nil))))))), fun ds Q h => ?_⟩)
  obtain ⟨ns, rfl, hl, hq⟩ := h
  simp only [dSeq, dFor, iRg1]
  walk_at "dl"
  have e : ((ns.map PyData.int).length : Int) = ns.length := by rw [List.length_map]
  rw [e]
  refine ⟨by split <;> (try split) <;> omega, by split <;> (try split) <;> omega, ?_⟩
  refine for_op (fun _ δ => ∃ a1 a2 a3 a4 a5 a6 a7 a8 a9 a10 a11 a12 a13 a14, δ = [some (.sh (.list (ns.map .int))), a1, a2, a3, a4, a5, a6, a7, a8, a9, a10, a11, a12, a13, a14]) ⟨_, _, _, _, _, _, _, _, _, _, _, _, _, _, rfl⟩ ?_ (fun δ ⟨_, _, _, _, _, _, _, _, _, _, _, _, _, _, e⟩ => by subst e; walk_at "dl"; exact end54 hq)
  rintro W hW i d δ hi ⟨a1, a2, a3, a4, a5, a6, a7, a8, a9, a10, a11, a12, a13, a14, rfl⟩
  have hi2 := get_lt hi
  rw [rngD_len] at hi2
  have hi3 : (i : Int) < 1000 := by
    split at hi2 <;> (try split at hi2) <;> omega
  rw [rngD_get hi2] at hi
  cases hi
  rw [Int.zero_add]
  simp only [gNm, List.set_cons_succ, List.set_cons_zero]
  refine seq_k fun K hK => ?_
  walk_at "dl"
  refine ⟨ns, i, rfl, hl, by omega, by omega, fun xs hb => ?_⟩
  refine hK _ ?_
  refine seq_k fun K hK => ?_
  walk_at "dl"
  refine ⟨_, hb, by decide, rfl, fun ⟨most, wd⟩ x1 ⟨hm, hwd⟩ hb => ?_⟩
  simp only [DL.prD]
  walk_at "dl"
  refine hK _ ?_
  refine seq_k fun K hK => ?_
  walk_at "dl"
  refine ⟨_, most, wd, hb, by decide, rfl, hm, hwd, fun ts x2 hts hlk hlen hb => ?_⟩
  walk_at "dl"
  refine hK _ ?_
  refine seq_k fun K hK => ?_
  walk_at "dl"
  have hl4 : ts.length ≤ 399 := by have := hm.2; omega
  have htw : ∀ t ∈ ts, EtW t := fun t m => (hts t m).w
  have h2p : (0 : Rat) < ((2 : Int) : Rat) ∧ Bd 100 ((2 : Int) : Rat) := ⟨by decide, Bd.int (by decide) (by decide)⟩
  have h1p : (0 : Rat) < ((1 : Int) : Rat) ∧ Bd 100 ((1 : Int) : Rat) := ⟨by decide, Bd.int (by decide) (by decide)⟩
  refine ⟨_, ts, hb, by decide, rfl, ⟨hts, by omega⟩, fun drag x3 d0 db hb => ?_⟩
  refine ⟨_, hb, by decide, rfl, fun jerk x4 ⟨j0, jb⟩ hb => ?_⟩
  simp only [asD]
  have hdr : 0 < drag ∧ Bd 100 drag := ⟨d0, db.mono (by decide)⟩
  have hjk : 0 < jerk ∧ Bd 100 jerk := ⟨j0, jb.mono (by decide)⟩
  refine hK _ ?_
  refine seq_k fun K hK => ?_
  walk_at "dl"
  refine ⟨ts, drag, jerk, rfl, ⟨htw, by omega, hdr, hjk⟩, ?_⟩
  refine ⟨ts, _, jerk, rfl, ⟨htw, by omega, h2p, hjk⟩, ?_⟩
  simp only [asD]
  refine hK _ ?_
  refine seq_k fun K hK => ?_
  walk_at "dl"
  refine ⟨ts, drag, _, rfl, ⟨htw, by omega, hdr, h1p⟩, ?_⟩
  refine ⟨ts, _, _, rfl, ⟨htw, by omega, h2p, h1p⟩, ?_⟩
  simp only [asD]
  refine hK _ ?_
  refine seq_k fun K hK => ?_
  walk_at "dl"
  refine hK _ ?_
  generalize hF1 : jcaps drag jerk ts = F1
  generalize hF2 : jcaps ((2 : Int) : Rat) jerk ts = F2
  generalize hF3 : jcaps drag ((1 : Int) : Rat) ts = F3
  generalize hF4 : jcaps ((2 : Int) : Rat) ((1 : Int) : Rat) ts = F4
  simp only [dFor, iRg1]
  walk_at "dl"
  refine ⟨by decide, by decide, ?_⟩
  refine for_op (fun _ δ => ∃ a5 a12 a13 a14, δ = [some (Sl.sh (PyData.list (List.map PyData.int ns))), some (Sl.sh (PyData.int ↑i)), some (Sl.ow false x4),
        some (Sl.sh (PyData.list [PyData.list (lf (ts.length + 1) F1), PyData.list (lf (ts.length + 1) F2), PyData.list (lf (ts.length + 1) F3), PyData.list (lf (ts.length + 1) F4)])),
        some (Sl.sh (PyData.list (List.map etD ts))), a5, some (Sl.sh (PyData.int most)), some (Sl.sh (PyData.int wd)),
        some (Sl.sh (PyData.list (List.map etD ts))), some (Sl.sh (PyData.list (List.map (fun t => faD t.e) ts))),
        some (Sl.sh (numD drag)), some (Sl.sh (numD jerk)), a12, a13, a14]) ⟨_, _, _, _, rfl⟩ ?_ ?_
  · rintro W' hW' k d δ hk ⟨a5, a12, a13, a14, rfl⟩
    simp only [gNm, List.set_cons_succ, List.set_cons_zero]
    refine seq_k fun K hK => ?_
    walk_at "dl"
    simp only [dSetB, dNst2]
    walk_at "dl"
    refine ⟨ts, drag, jerk, rfl, ⟨htw, by omega, hdr, hjk⟩, ?_⟩
    refine ⟨ts, _, jerk, rfl, ⟨htw, by omega, h2p, hjk⟩, ?_⟩
    rw [hF1, hF2]
    refine hK _ ?_
    refine seq_k fun K hK => ?_
    walk_at "dl"
    simp only [dAddB, dNst2]
    walk_at "dl"
    refine ⟨ts, drag, _, rfl, ⟨htw, by omega, hdr, h1p⟩, ?_⟩
    refine ⟨ts, _, _, rfl, ⟨htw, by omega, h2p, h1p⟩, ?_⟩
    rw [hF3, hF4]
    refine hK _ ?_
    refine seq_k fun K hK => ?_
    walk_at "dl"
    simp only [dLendN, lentN]
    walk_at "dl"
    have ar : ∀ (F : Nat → Int) (Q : Res → Prop), Q (.d (.bool true)) → f_areg [PyData.list (lf (ts.length + 1) F), PyData.list (lf (ts.length + 1) F)] Q := fun F Q h => ⟨(List.range (ts.length + 1)).map F, by rw [List.map_map]; rfl, by rw [List.length_map, List.length_range]; omega, h⟩
    have gd := ets_gd htw
    have eqe : PyData.eqvAll (List.map etD ts) (List.map etD ts) = true := gd.eqv
    have she := gd.sh (by decide)
    refine ar _ _ (ar _ _ (ar _ _ (ar _ _ ⟨[true, true, true, true], rfl, rfl, ?_⟩)))
    simp only [List.all_cons, List.all_nil, id_eq, Bool.and_true, Bool.not_true]
    refine ⟨she, she, ?_⟩
    simp only [eqe, Bool.not_true]
    refine hK _ ?_
    simp only [dForN]
    walk_at "dl"
    refine ⟨fun xs hx => ?_, ?_⟩
    · simp only [List.mem_cons, List.not_mem_nil, or_false] at hx
      rcases hx with rfl | rfl | rfl | rfl <;> rw [lf_len] <;> omega
    · exact hW' _ _ ⟨_, _, _, _, rfl⟩
  · rintro δ ⟨a5, a12, a13, a14, rfl⟩
    exact hW _ _ ⟨_, _, _, _, _, _, _, _, _, _, _, _, _, _, rfl⟩
def fnL : List He.DefD := [⟨("shared", none), "shared", "shared", defArgs s_shared, defBody s_shared, defScope s_shared, [], []⟩, ⟨("opposite", none), "opposite", "opposite", defArgs s_opposite, defBody s_opposite, defScope s_opposite, [], []⟩, ⟨("is_below", none), "is_below", "is_below", defArgs s_is_below, defBody s_is_below, defScope s_is_below, [], []⟩, ⟨("side_of", none), "side_of", "side_of", defArgs s_side_of, defBody s_side_of, defScope s_side_of, [], []⟩, ⟨("_law_bag", none), "_law_bag", "_law_bag", defArgs s__law_bag, defBody s__law_bag, defScope s__law_bag, [], []⟩, ⟨("_law_take", none), "_law_take", "_law_take", defArgs s__law_take, defBody s__law_take, defScope s__law_take, [], []⟩, ⟨("_law_low", none), "_law_low", "_law_low", defArgs s__law_low, defBody s__law_low, defScope s__law_low, [], []⟩, ⟨("_law_gear", none), "_law_gear", "_law_gear", defArgs s__law_gear, defBody s__law_gear, defScope s__law_gear, [], []⟩, ⟨("_law_are_gears", none), "_law_are_gears", "_law_are_gears", defArgs s__law_are_gears, defBody s__law_are_gears, defScope s__law_are_gears, [], []⟩, ⟨("ratio", none), "ratio", "ratio", defArgs s_ratio, defBody s_ratio, defScope s_ratio, [.int 1], []⟩, ⟨("root", none), "root", "root", defArgs s_root, defBody s_root, defScope s_root, [], []⟩, ⟨("left_of", none), "left_of", "left_of", defArgs s_left_of, defBody s_left_of, defScope s_left_of, [], []⟩, ⟨("_law_plus", none), "_law_plus", "_law_plus", defArgs s__law_plus, defBody s__law_plus, defScope s__law_plus, [], []⟩, ⟨("_law_times", none), "_law_times", "_law_times", defArgs s__law_times, defBody s__law_times, defScope s__law_times, [], []⟩, ⟨("_law_heading", none), "_law_heading", "_law_heading", defArgs s__law_heading, defBody s__law_heading, defScope s__law_heading, [], []⟩, ⟨("_law_small", none), "_law_small", "_law_small", defArgs s__law_small, defBody s__law_small, defScope s__law_small, [], []⟩, ⟨("_law_just", none), "_law_just", "_law_just", defArgs s__law_just, defBody s__law_just, defScope s__law_just, [], []⟩, ⟨("_law_sizes", none), "_law_sizes", "_law_sizes", defArgs s__law_sizes, defBody s__law_sizes, defScope s__law_sizes, [], []⟩, ⟨("plus", none), "plus", "plus", defArgs s_plus, defBody s_plus, defScope s_plus, [], []⟩, ⟨("times", none), "times", "times", defArgs s_times, defBody s_times, defScope s_times, [], []⟩, ⟨("over", none), "over", "over", defArgs s_over, defBody s_over, defScope s_over, [], []⟩, ⟨("_law_turned", none), "_law_turned", "_law_turned", defArgs s__law_turned, defBody s__law_turned, defScope s__law_turned, [], []⟩, ⟨("_law_along", none), "_law_along", "_law_along", defArgs s__law_along, defBody s__law_along, defScope s__law_along, [], []⟩, ⟨("_law_entry_cap", none), "_law_entry_cap", "_law_entry_cap", defArgs s__law_entry_cap, defBody s__law_entry_cap, defScope s__law_entry_cap, [], []⟩, ⟨("_law_pull", none), "_law_pull", "_law_pull", defArgs s__law_pull, defBody s__law_pull, defScope s__law_pull, [], []⟩, ⟨("_law_jolt", none), "_law_jolt", "_law_jolt", defArgs s__law_jolt, defBody s__law_jolt, defScope s__law_jolt, [], []⟩, ⟨("minus", none), "minus", "minus", defArgs s_minus, defBody s_minus, defScope s_minus, [], []⟩, ⟨("scaled", none), "scaled", "scaled", defArgs s_scaled, defBody s_scaled, defScope s_scaled, [], []⟩, ⟨("dot", none), "dot", "dot", defArgs s_dot, defBody s_dot, defScope s_dot, [], []⟩, ⟨("greatest_gear", none), "greatest_gear", "greatest_gear", defArgs s_greatest_gear, defBody s_greatest_gear, defScope s_greatest_gear, [], []⟩, ⟨("_law_step", none), "_law_step", "_law_step", defArgs s__law_step, defBody s__law_step, defScope s__law_step, [], []⟩, ⟨("_law_joint_caps", none), "_law_joint_caps", "_law_joint_caps", defArgs s__law_joint_caps, defBody s__law_joint_caps, defScope s__law_joint_caps, [], []⟩, ⟨("lessened", none), "lessened", "lessened", defArgs s_lessened, defBody s_lessened, defScope s_lessened, [], []⟩, ⟨("_law_way", none), "_law_way", "_law_way", defArgs s__law_way, defBody s__law_way, defScope s__law_way, [], []⟩, ⟨("distance", none), "distance", "distance", defArgs s_distance, defBody s_distance, defScope s_distance, [], []⟩, ⟨("heading_to", none), "heading_to", "heading_to", defArgs s_heading_to, defBody s_heading_to, defScope s_heading_to, [], []⟩, ⟨("radius_of", none), "radius_of", "radius_of", defArgs s_radius_of, defBody s_radius_of, defScope s_radius_of, [], []⟩, ⟨("heading_at", none), "heading_at", "heading_at", defArgs s_heading_at, defBody s_heading_at, defScope s_heading_at, [], []⟩, ⟨("entry_cap", none), "entry_cap", "entry_cap", defArgs s_entry_cap, defBody s_entry_cap, defScope s_entry_cap, [], []⟩, ⟨("headings", none), "headings", "headings", defArgs s_headings, defBody s_headings, defScope s_headings, [], []⟩, ⟨("jolt_cap", none), "jolt_cap", "jolt_cap", defArgs s_jolt_cap, defBody s_jolt_cap, defScope s_jolt_cap, [], []⟩, ⟨("joint_cap", none), "joint_cap", "joint_cap", defArgs s_joint_cap, defBody s_joint_cap, defScope s_joint_cap, [], []⟩, ⟨("joint_caps", none), "joint_caps", "joint_caps", defArgs s_joint_caps, defBody s_joint_caps, defScope s_joint_caps, [], [("pull", .glo "PULL"), ("jolt", .glo "JOLT")]⟩, ⟨("law", none), "law", "law", defArgs s_law, defBody s_law, defScope s_law, [], []⟩]
def faL : List He.Fa := [.glo "shared", .glo "opposite", .glo "is_below", .glo "side_of", .glo "_law_bag", .glo "_law_take", .glo "_law_low", .glo "_law_gear", .glo "_law_are_gears", .glo "ratio", .glo "root", .glo "left_of", .glo "_law_plus", .glo "_law_times", .glo "_law_heading", .glo "_law_small", .glo "_law_just", .glo "_law_sizes", .glo "plus", .glo "times", .glo "over", .glo "_law_turned", .glo "_law_along", .glo "_law_entry_cap", .glo "_law_pull", .glo "_law_jolt", .glo "minus", .glo "scaled", .glo "dot", .glo "greatest_gear", .glo "_law_step", .glo "_law_joint_caps", .glo "lessened", .glo "_law_way", .glo "distance", .glo "heading_to", .glo "radius_of", .glo "heading_at", .glo "entry_cap", .glo "headings", .glo "jolt_cap", .glo "joint_cap", .glo "joint_caps", .glo "law", .free "abs", .free "all", .free "any", .free "bool", .free "int", .free "isinstance", .free "len", .free "list", .free "max", .free "min", .free "range", .free "zip", .glo "PULL", .glo "JOLT"]
abbrev R : PySem.W.OpenRow := PySem.W.OpenLaw.row PySem.Challenge.rw_toolroad_k54_joint_caps
def csL : List (Str × PyData) := [("PULL", (PyData.tuple [(PyData.int 2), (PyData.int 1)])), ("JOLT", (PyData.tuple [(PyData.int 1), (PyData.int 1)])), ("NOUGHT", (PyData.tuple [(PyData.int 0), (PyData.int 1)])), ("ONE", (PyData.tuple [(PyData.int 1), (PyData.int 1)])), ("MOST_GEAR", (PyData.int 9)), ("TWO", (PyData.tuple [(PyData.int 2), (PyData.int 1)]))]
abbrev hk : PySem.W.Hook := DL.hookC 4 faL fnL csL
def ob (s : PySem.W.SharedT) : DL.AlC := DL.obsCG 4 faL fnL csL (HandSHeadRun.getT s)
theorem ob_eq (s : PySem.W.SharedT) : ob s = hk.obs s.abs := DL.obsCG_eq (HandSHeadRun.getT_eq s)
def loose : List PySem.Str := [("MillError" : PySem.Str), ("NoHeading" : PySem.Str), ("OverNought" : PySem.Str), ("shared" : PySem.Str), ("ratio" : PySem.Str), ("plus" : PySem.Str), ("opposite" : PySem.Str), ("minus" : PySem.Str), ("times" : PySem.Str), ("over" : PySem.Str), ("is_below" : PySem.Str), ("side_of" : PySem.Str), ("root" : PySem.Str), ("lessened" : PySem.Str), ("scaled" : PySem.Str), ("dot" : PySem.Str), ("left_of" : PySem.Str), ("distance" : PySem.Str), ("heading_to" : PySem.Str), ("radius_of" : PySem.Str), ("heading_at" : PySem.Str), ("headings" : PySem.Str), ("greatest_gear" : PySem.Str), ("entry_cap" : PySem.Str), ("jolt_cap" : PySem.Str), ("joint_cap" : PySem.Str), ("joint_caps" : PySem.Str), ("_law_bag" : PySem.Str), ("_law_take" : PySem.Str), ("_law_low" : PySem.Str), ("_law_plus" : PySem.Str), ("_law_times" : PySem.Str), ("_law_heading" : PySem.Str), ("_law_turned" : PySem.Str), ("_law_along" : PySem.Str), ("_law_step" : PySem.Str), ("_law_way" : PySem.Str), ("_law_gear" : PySem.Str), ("_law_entry_cap" : PySem.Str), ("_law_joint_caps" : PySem.Str), ("_law_small" : PySem.Str), ("_law_just" : PySem.Str), ("_law_pull" : PySem.Str), ("_law_jolt" : PySem.Str), ("_law_sizes" : PySem.Str), ("_law_are_gears" : PySem.Str), ("NOUGHT" : PySem.Str), ("ONE" : PySem.Str), ("TWO" : PySem.Str), ("PULL" : PySem.Str), ("JOLT" : PySem.Str), ("MOST_GEAR" : PySem.Str)]
theorem run (w : World) : HandSHeadRun.RunEq R (PySem.W.view R.prog [58]) hk ob 3000 loose w := by
  intro os
  kernel_rfl
theorem facts {P : Program} {w : World} {K : Fg} {h : Heap} {mg : Str → Option Value} {f : Addr} (X : K.In h) (G : h.Ns mainGlobals mg) (hfa : mg ("law" : Str) = some (.ref f)) (cC : DL.SaysC faL fnL csL K) :
    ∃ fd : FuncData, (∀ (s : Shared) (v : Value), BindsTo s fd ⟨[v], []⟩ [("_law_script", v)]) ∧ ∀ base : Heap, K.In base → base.Ns mainGlobals mg → FnOk P w K mg base CX0 13 f fd ["_law_script"] (spP K f_law) := by
  have c := cC.d
  obtain ⟨fd_shared, F_shared⟩ := c.def_ 0 (d := fnL[0]) rfl
  obtain ⟨fd_opposite, F_opposite⟩ := c.def_ 1 (d := fnL[1]) rfl
  obtain ⟨fd_is_below, F_is_below⟩ := c.def_ 2 (d := fnL[2]) rfl
  obtain ⟨fd_side_of, F_side_of⟩ := c.def_ 3 (d := fnL[3]) rfl
  obtain ⟨fd__law_bag, F__law_bag⟩ := c.def_ 4 (d := fnL[4]) rfl
  obtain ⟨fd__law_take, F__law_take⟩ := c.def_ 5 (d := fnL[5]) rfl
  obtain ⟨fd__law_low, F__law_low⟩ := c.def_ 6 (d := fnL[6]) rfl
  obtain ⟨fd__law_gear, F__law_gear⟩ := c.def_ 7 (d := fnL[7]) rfl
  obtain ⟨fd__law_are_gears, F__law_are_gears⟩ := c.def_ 8 (d := fnL[8]) rfl
  obtain ⟨fd_ratio, F_ratio⟩ := c.def_ 9 (d := fnL[9]) rfl
  obtain ⟨fd_root, F_root⟩ := c.def_ 10 (d := fnL[10]) rfl
  obtain ⟨fd_left_of, F_left_of⟩ := c.def_ 11 (d := fnL[11]) rfl
  obtain ⟨fd__law_plus, F__law_plus⟩ := c.def_ 12 (d := fnL[12]) rfl
  obtain ⟨fd__law_times, F__law_times⟩ := c.def_ 13 (d := fnL[13]) rfl
  obtain ⟨fd__law_heading, F__law_heading⟩ := c.def_ 14 (d := fnL[14]) rfl
  obtain ⟨fd__law_small, F__law_small⟩ := c.def_ 15 (d := fnL[15]) rfl
  obtain ⟨fd__law_just, F__law_just⟩ := c.def_ 16 (d := fnL[16]) rfl
  obtain ⟨fd__law_sizes, F__law_sizes⟩ := c.def_ 17 (d := fnL[17]) rfl
  obtain ⟨fd_plus, F_plus⟩ := c.def_ 18 (d := fnL[18]) rfl
  obtain ⟨fd_times, F_times⟩ := c.def_ 19 (d := fnL[19]) rfl
  obtain ⟨fd_over, F_over⟩ := c.def_ 20 (d := fnL[20]) rfl
  obtain ⟨fd__law_turned, F__law_turned⟩ := c.def_ 21 (d := fnL[21]) rfl
  obtain ⟨fd__law_along, F__law_along⟩ := c.def_ 22 (d := fnL[22]) rfl
  obtain ⟨fd__law_entry_cap, F__law_entry_cap⟩ := c.def_ 23 (d := fnL[23]) rfl
  obtain ⟨fd__law_pull, F__law_pull⟩ := c.def_ 24 (d := fnL[24]) rfl
  obtain ⟨fd__law_jolt, F__law_jolt⟩ := c.def_ 25 (d := fnL[25]) rfl
  obtain ⟨fd_minus, F_minus⟩ := c.def_ 26 (d := fnL[26]) rfl
  obtain ⟨fd_scaled, F_scaled⟩ := c.def_ 27 (d := fnL[27]) rfl
  obtain ⟨fd_dot, F_dot⟩ := c.def_ 28 (d := fnL[28]) rfl
  obtain ⟨fd_greatest_gear, F_greatest_gear⟩ := c.def_ 29 (d := fnL[29]) rfl
  obtain ⟨fd__law_step, F__law_step⟩ := c.def_ 30 (d := fnL[30]) rfl
  obtain ⟨fd__law_joint_caps, F__law_joint_caps⟩ := c.def_ 31 (d := fnL[31]) rfl
  obtain ⟨fd_lessened, F_lessened⟩ := c.def_ 32 (d := fnL[32]) rfl
  obtain ⟨fd__law_way, F__law_way⟩ := c.def_ 33 (d := fnL[33]) rfl
  obtain ⟨fd_distance, F_distance⟩ := c.def_ 34 (d := fnL[34]) rfl
  obtain ⟨fd_heading_to, F_heading_to⟩ := c.def_ 35 (d := fnL[35]) rfl
  obtain ⟨fd_radius_of, F_radius_of⟩ := c.def_ 36 (d := fnL[36]) rfl
  obtain ⟨fd_heading_at, F_heading_at⟩ := c.def_ 37 (d := fnL[37]) rfl
  obtain ⟨fd_entry_cap, F_entry_cap⟩ := c.def_ 38 (d := fnL[38]) rfl
  obtain ⟨fd_headings, F_headings⟩ := c.def_ 39 (d := fnL[39]) rfl
  obtain ⟨fd_jolt_cap, F_jolt_cap⟩ := c.def_ 40 (d := fnL[40]) rfl
  obtain ⟨fd_joint_cap, F_joint_cap⟩ := c.def_ 41 (d := fnL[41]) rfl
  obtain ⟨fd_joint_caps, F_joint_caps⟩ := c.def_ 42 (d := fnL[42]) rfl
  obtain ⟨fd_law, F_law⟩ := c.def_ 43 (d := fnL[43]) rfl
  have T : Tx K mg := ⟨fd_shared, F_shared, He.glo_ok X G (c.fact 0 (f := .glo "shared") rfl), fd_opposite, F_opposite, He.glo_ok X G (c.fact 1 (f := .glo "opposite") rfl), fd_is_below, F_is_below, He.glo_ok X G (c.fact 2 (f := .glo "is_below") rfl), fd_side_of, F_side_of, He.glo_ok X G (c.fact 3 (f := .glo "side_of") rfl), fd__law_bag, F__law_bag, He.glo_ok X G (c.fact 4 (f := .glo "_law_bag") rfl), fd__law_take, F__law_take, He.glo_ok X G (c.fact 5 (f := .glo "_law_take") rfl), fd__law_low, F__law_low, He.glo_ok X G (c.fact 6 (f := .glo "_law_low") rfl), fd__law_gear, F__law_gear, He.glo_ok X G (c.fact 7 (f := .glo "_law_gear") rfl), fd__law_are_gears, F__law_are_gears, He.glo_ok X G (c.fact 8 (f := .glo "_law_are_gears") rfl), fd_ratio, F_ratio, He.glo_ok X G (c.fact 9 (f := .glo "ratio") rfl), fd_root, F_root, He.glo_ok X G (c.fact 10 (f := .glo "root") rfl), fd_left_of, F_left_of, He.glo_ok X G (c.fact 11 (f := .glo "left_of") rfl), fd__law_plus, F__law_plus, He.glo_ok X G (c.fact 12 (f := .glo "_law_plus") rfl), fd__law_times, F__law_times, He.glo_ok X G (c.fact 13 (f := .glo "_law_times") rfl), fd__law_heading, F__law_heading, He.glo_ok X G (c.fact 14 (f := .glo "_law_heading") rfl), fd__law_small, F__law_small, He.glo_ok X G (c.fact 15 (f := .glo "_law_small") rfl), fd__law_just, F__law_just, He.glo_ok X G (c.fact 16 (f := .glo "_law_just") rfl), fd__law_sizes, F__law_sizes, He.glo_ok X G (c.fact 17 (f := .glo "_law_sizes") rfl), fd_plus, F_plus, He.glo_ok X G (c.fact 18 (f := .glo "plus") rfl), fd_times, F_times, He.glo_ok X G (c.fact 19 (f := .glo "times") rfl), fd_over, F_over, He.glo_ok X G (c.fact 20 (f := .glo "over") rfl), fd__law_turned, F__law_turned, He.glo_ok X G (c.fact 21 (f := .glo "_law_turned") rfl), fd__law_along, F__law_along, He.glo_ok X G (c.fact 22 (f := .glo "_law_along") rfl), fd__law_entry_cap, F__law_entry_cap, He.glo_ok X G (c.fact 23 (f := .glo "_law_entry_cap") rfl), fd__law_pull, F__law_pull, He.glo_ok X G (c.fact 24 (f := .glo "_law_pull") rfl), fd__law_jolt, F__law_jolt, He.glo_ok X G (c.fact 25 (f := .glo "_law_jolt") rfl), fd_minus, F_minus, He.glo_ok X G (c.fact 26 (f := .glo "minus") rfl), fd_scaled, F_scaled, He.glo_ok X G (c.fact 27 (f := .glo "scaled") rfl), fd_dot, F_dot, He.glo_ok X G (c.fact 28 (f := .glo "dot") rfl), fd_greatest_gear, F_greatest_gear, He.glo_ok X G (c.fact 29 (f := .glo "greatest_gear") rfl), fd__law_step, F__law_step, He.glo_ok X G (c.fact 30 (f := .glo "_law_step") rfl), fd__law_joint_caps, F__law_joint_caps, He.glo_ok X G (c.fact 31 (f := .glo "_law_joint_caps") rfl), fd_lessened, F_lessened, He.glo_ok X G (c.fact 32 (f := .glo "lessened") rfl), fd__law_way, F__law_way, He.glo_ok X G (c.fact 33 (f := .glo "_law_way") rfl), fd_distance, F_distance, He.glo_ok X G (c.fact 34 (f := .glo "distance") rfl), fd_heading_to, F_heading_to, He.glo_ok X G (c.fact 35 (f := .glo "heading_to") rfl), fd_radius_of, F_radius_of, He.glo_ok X G (c.fact 36 (f := .glo "radius_of") rfl), fd_heading_at, F_heading_at, He.glo_ok X G (c.fact 37 (f := .glo "heading_at") rfl), fd_entry_cap, F_entry_cap, He.glo_ok X G (c.fact 38 (f := .glo "entry_cap") rfl), fd_headings, F_headings, He.glo_ok X G (c.fact 39 (f := .glo "headings") rfl), fd_jolt_cap, F_jolt_cap, He.glo_ok X G (c.fact 40 (f := .glo "jolt_cap") rfl), fd_joint_cap, F_joint_cap, He.glo_ok X G (c.fact 41 (f := .glo "joint_cap") rfl), fd_joint_caps, F_joint_caps, He.glo_ok X G (c.fact 42 (f := .glo "joint_caps") rfl), fd_law, F_law, He.glo_ok X G (c.fact 43 (f := .glo "law") rfl), He.free_ok X G (c.fact 44 (f := .free "abs") rfl), He.free_ok X G (c.fact 45 (f := .free "all") rfl), He.free_ok X G (c.fact 46 (f := .free "any") rfl), He.free_ok X G (c.fact 47 (f := .free "bool") rfl), He.free_ok X G (c.fact 48 (f := .free "int") rfl), He.free_ok X G (c.fact 49 (f := .free "isinstance") rfl), He.free_ok X G (c.fact 50 (f := .free "len") rfl), He.free_ok X G (c.fact 51 (f := .free "list") rfl), He.free_ok X G (c.fact 52 (f := .free "max") rfl), He.free_ok X G (c.fact 53 (f := .free "min") rfl), He.free_ok X G (c.fact 54 (f := .free "range") rfl), He.free_ok X G (c.fact 55 (f := .free "zip") rfl), cC.cst X G 0 rfl, cC.cst X G 1 rfl, cC.cst X G 2 rfl, cC.cst X G 3 rfl, cC.cst X G 4 rfl, cC.cst X G 5 rfl, He.glo_ok X G (c.fact 56 (f := .glo "PULL") rfl), He.glo_ok X G (c.fact 57 (f := .glo "JOLT") rfl)⟩
  have e := hfa.symm.trans T.g_law
  cases e
  have b := FunD.bindsA (ps := ["_law_script"]) T.F_law fun _ _ _ _ _ _ us hl => match us, hl with | [_], _ => rfl
  exact ⟨T.fd_law, fun s v => b s [v] rfl, fun base _ _ => ok_law T⟩
end Lw
open PySem PySem.W PySem.Calls PyProof.Rows
theorem PySem.Challenge.cw_toolroad_k54_joint_caps_holds : PySem.Challenge.rw_toolroad_k54_joint_caps.Holds := by
  w_on; o_law
  refine HandSHeadRun.head_any (r := OpenLaw.row PySem.Challenge.rw_toolroad_k54_joint_caps) (q := view (OpenLaw.row PySem.Challenge.rw_toolroad_k54_joint_caps).prog [58]) (H := Lw.hk) (ob := Lw.ob) (M := 3000) (loose := Lw.loose) (d := HandSHeadRun.topDef (OpenLaw.row PySem.Challenge.rw_toolroad_k54_joint_caps).prog 58) (kwd := []) Lw.ob_eq
    (by kernel_rfl) (fun s => by kernel_rfl) Lw.run (by kernel_rfl) (by kernel_rfl) (by kernel_rfl) (by rfl) (by first | assumption | decide +kernel) (by decide +kernel) ⟨rfl, rfl, rfl, rfl, rfl, by decide +kernel⟩ ?hw ?hc
  case hw => w_witness2
  case hc =>
    refine L2.walk_ofE (l := PySem.Challenge.rw_toolroad_k54_joint_caps) (n := 63) (k := 13) (x := "_law_script") (CX := L2.CX0) rfl (by decide) (by kernel_rfl) ⟨rfl, by decide, by decide⟩ ?F (fun _ _ _ _ z => z)
    intro w mg fa h Y G hmg0
    obtain ⟨K, KX, c⟩ := Y
    have hmg : mg ("law" : PySem.Str) = some (.ref fa) := by
      have e : (HandSHeadRun.topDef (OpenLaw.row PySem.Challenge.rw_toolroad_k54_joint_caps).prog 58).name = ("law" : PySem.Str) := by kernel_rfl
      rw [← e]
      exact hmg0
    obtain ⟨fd, hb, hF⟩ := Lw.facts (P := (PySem.Challenge.rw_toolroad_k54_joint_caps).prog) (w := w) KX G hmg c
    exact ⟨K, fd, DL.spP K DL.f_law, KX, hb, fun H a ns hl _ hS => DL.law_start hl hS, hF⟩


