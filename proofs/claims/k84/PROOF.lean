import PyProof.Rows.All
import Wide.All
import OpenK.AllK
import Wide.FinOn
import PySem.Challenge.RW_oppositesmeet_k84_unbeaten_books_and_the
import HandS.ForMost
import HandS.Evl
import HandS.TupAny
import HandS.Deep
import HandS.RaiseMore
import HandS.Conv
import HandS.Style
import HandS.SortInts
import KE.SortData
import KE.GoesMore
import KE.KDictSum
import KE.KIndexOf
import PyProof.TupleOfSeq
import PyProof.ReprRoads
import HandS.ReCall
import HandS.SetFor
import HandS.Zip
import HandS.Walk
import PyProof.EnumMake
import HandS.IsInst
import HandS.ListItems
import PyProof.Rows.FactsN_isinstance
import PyProof.Rows.FactsN_abs
import HandS.Defaults
import HandS.Words
import HandS.Property
import HandS.OwnEq
import HandS.ClsMeth
import HandS.More
import OpenK.KOps
import HandS.ExcInit
import HandS.ExcSuper
import HandS.Nested
import KE.KExcSuper
import HandS.TryMany
import HandS.ExcField
import PyProof.ReprBulk
import HandS.HeadEnd
import HandS.HeadHook1
import HandS.HeadHook2
import HandS.Head0
import HandS.Head1
import HandS.Head2
set_option Elab.async false
/-! part FA -/
set_option Elab.async false
set_option linter.all false
set_option maxRecDepth 100000
set_option maxHeartbeats 2000000
/-! What an expression evaluates to, as data, over a visible part G of the abstract heap H: what is hidden (a list that the def still changes) lies in H alone. -/
namespace FX
open PySem L2 Evl

/-- from (G, H) to (G', H'): all stands, and what was hidden stays hidden (tuples, which never change, may come into sight) -/
def Nx (G H G' H' : Hp) : Prop := Ex H H' ∧ Ex G G' ∧ Ex G' H' ∧ ∀ a o, H a = some o → (∀ xs, o ≠ .tup xs) → G a = none → G' a = none
section
variable {G H G1 H1 G2 H2 : Hp} {p : Addr} {o : HO}
theorem Nx.refl (e : Ex G H) : Nx G H G H := ⟨Ex.refl H, Ex.refl G, e, fun _ _ _ _ h => h⟩
theorem Nx.trans (a : Nx G H G1 H1) (b : Nx G1 H1 G2 H2) : Nx G H G2 H2 :=
  ⟨a.1.trans b.1, a.2.1.trans b.2.1, b.2.2.1, fun x u hx ht hg => b.2.2.2 x u (a.1 x u hx) ht (a.2.2.2 x u hx ht hg)⟩
theorem Nx.hh (a : Nx G H G1 H1) : Ex H H1 := a.1
theorem Nx.gg (a : Nx G H G1 H1) : Ex G G1 := a.2.1
theorem Nx.gh (a : Nx G H G1 H1) : Ex G1 H1 := a.2.2.1
theorem Nx.hid (a : Nx G H G1 H1) {x : Addr} {u : HO} (h : H x = some u) (ht : ∀ xs, u ≠ .tup xs) (g : G x = none) : G1 x = none := a.2.2.2 x u h ht g
theorem Nx.hidL (a : Nx G H G1 H1) {x : Addr} {l : List V} (h : H x = some (.lst l)) (g : G x = none) : G1 x = none := a.hid h (fun _ => by intro z; cases z) g
theorem Nx.hidT (a : Nx G H G1 H1) {x : Addr} {l : List (List L2.Key × V)} (h : H x = some (.dT l)) (g : G x = none) : G1 x = none := a.hid h (fun _ => by intro z; cases z) g
/-- a new visible object -/
theorem Nx.new (e : Ex G H) (hp : H p = none) : Nx G H (upd G p o) (upd H p o) := by
  have gp : G p = none := fresh_back e hp
  refine ⟨Ex.new hp, Ex.new gp, fun a u h => ?_, fun a u ha _ hg => ?_⟩
  · by_cases c : a = p
    · subst c
      rw [upd_same] at h ⊢
      exact h
    · rw [upd_ne c] at h ⊢
      exact e a u h
  · have c : a ≠ p := fun z => by
      rw [z, hp] at ha
      cases ha
    rw [upd_ne c]
    exact hg
/-- a tuple comes into sight -/
theorem Nx.tup (e : Ex G H) {xs : List V} (hp : H p = some (.tup xs)) : Nx G H (upd G p (.tup xs)) H := by
  refine ⟨Ex.refl H, fun a u h => ?_, fun a u h => ?_, fun a u ha ht hg => ?_⟩
  · by_cases c : a = p
    · subst c
      rw [upd_same]
      have := e a u h
      rw [hp] at this
      exact this
    · rw [upd_ne c]
      exact h
  · by_cases c : a = p
    · subst c
      rw [upd_same] at h
      rw [← h]
      exact hp
    · rw [upd_ne c] at h
      exact e a u h
  · have c : a ≠ p := fun z => by
      rw [z, hp] at ha
      cases ha
      exact ht xs rfl
    rw [upd_ne c]
    exact hg
/-- a new hidden object -/
theorem Nx.newH (e : Ex G H) (hp : H p = none) : Nx G H G (upd H p o) := ⟨Ex.new hp, Ex.refl G, e.trans (Ex.new hp), fun _ _ _ _ h => h⟩
/-- a hidden object that the entry does not know is changed -/
theorem Nx.mut (a : Nx G H G1 H1) (hp : H p = none) (gp : G1 p = none) : Nx G H G1 (upd H1 p o) := ⟨Ex.mut a.1 hp, a.2.1, Ex.mut a.2.2.1 gp, a.2.2.2⟩
/-- a hidden object comes into sight -/
theorem Nx.show (a : Nx G H G1 H1) (hp : H p = none) (gp : G1 p = none) (h1 : H1 p = some o) : Nx G H (upd G1 p o) H1 := by
  refine ⟨a.1, a.2.1.trans (Ex.new gp), fun x u h => ?_, fun x u hx ht hg => ?_⟩
  · by_cases c : x = p
    · subst c
      rw [upd_same] at h
      rw [← h]
      exact h1
    · rw [upd_ne c] at h
      exact a.2.2.1 x u h
  · have c : x ≠ p := fun z => by
      rw [z, hp] at hx
      cases hx
    rw [upd_ne c]
    exact a.2.2.2 x u hx ht hg
/-- both parts together -/
def join (G G' : Hp) : Hp := fun a => match G a with
  | some o => some o
  | none => G' a
theorem join_l : Ex G (join G G1) := fun a o h => by
  unfold join
  rw [h]
theorem join_none {a : Addr} (h : G a = none) : join G G1 a = G1 a := by
  unfold join
  rw [h]
theorem Nx.grow (e : Ex G G1) (h : Ex G1 H) (a : Nx G H G2 H2) : Nx G1 H (join G1 G2) H2 ∧ Ex G2 (join G1 G2) := by
  have key : ∀ x o, G1 x = some o → H2 x = some o := fun x o h1 => a.1 x o (h x o h1)
  refine ⟨⟨a.1, join_l, fun x o h1 => ?_, fun x u hx ht hg => ?_⟩, fun x o h2 => ?_⟩
  · cases q : G1 x with
    | some u =>
      have : join G1 G2 x = some u := by unfold join; rw [q]
      rw [this] at h1
      rw [← h1]
      exact key x u q
    | none =>
      rw [join_none q] at h1
      exact a.2.2.1 x o h1
  · rw [join_none hg]
    exact a.2.2.2 x u hx ht (fresh_back e hg)
  · cases q : G1 x with
    | some u =>
      have h3 := key x u q
      have h4 := a.2.2.1 x o h2
      rw [h3] at h4
      unfold join
      rw [q]
      exact h4
    | none =>
      rw [join_none q]
      exact h2
end

/-! ### data -/
/-- a list (false), a tuple (true) -/
def sqO : Bool → List V → HO
  | true, xs => .tup xs
  | false, xs => .lst xs
def SqB (K : PySem.W.Frag) (H : Hp) (a : Addr) : Bool → List V → Prop
  | true, xs => SqT K H a xs
  | false, xs => SqL K H a xs
/-- a tuple that is tracked, a list that is tracked or locked -/
def SqG (G : Hp) (a : Addr) : Bool → List V → Prop
  | true, xs => G a = some (.tup xs)
  | false, xs => Rd G a (.lst xs)
theorem sqg_mono {G G' : Hp} {a : Addr} {t : Bool} {xs : List V} (e : Ex G G') (h : SqG G a t xs) : SqG G' a t xs := by
  cases t with
  | true => exact e _ _ h
  | false => exact ex_rd e h
theorem sqg_new {G : Hp} {a : Addr} {t : Bool} {xs : List V} : SqG (upd G a (sqO t xs)) a t xs := by
  cases t with
  | true => exact upd_same
  | false => exact .inl upd_same
/-- data: sq a list or a tuple; row a tuple of ints that is locked and has no dict of its own (so that its methods are known); an obj an instance -/
inductive Dat where
  | non | bl (b : Bool) | int (i : Int) | str (x : Str) | sq (t : Bool) (ds : List Dat) | row (ns : List Int) | obj (C : Addr) (fs : List (Str × Dat)) | dic (kvs : List (List Int × Dat))
abbrev kI (ns : List Int) : List L2.Key := ns.map Sum.inl
theorem kI_vals (ns : List Int) : (kI ns).map kV = ns.map V.int := by
  unfold kI
  rw [List.map_map]
  rfl
mutual
inductive Dt (G : Hp) : V → Dat → Prop
  | non : Dt G .non .non
  | bl (b : Bool) : Dt G (.bl b) (.bl b)
  | int (i : Int) : Dt G (.int i) (.int i)
  | str (x : Str) : Dt G (.str x) (.str x)
  | sq {a : Addr} {t : Bool} {xs : List V} {ds : List Dat} : SqG G a t xs → DtAll G xs ds → Dt G (.ref a) (.sq t ds)
  | row {a : Addr} {o : PySem.Obj} {ns : List Int} : G a = some (.frz o (.tup (ns.map V.int))) → o.dict = none → Dt G (.ref a) (.row ns)
  | obj {a C dx : Addr} {vs : List (Str × V)} {fs : List (Str × Dat)} : G a = some (.ins C dx vs) → DtFs G vs fs → Dt G (.ref a) (.obj C fs)
  | dic {a : Addr} {o : PySem.Obj} {ps : List (List L2.Key × V)} {kvs : List (List Int × Dat)} : G a = some (.frz o (.dT ps)) → DKv G ps kvs → Dt G (.ref a) (.dic kvs)
inductive DtAll (G : Hp) : List V → List Dat → Prop
  | nil : DtAll G [] []
  | cons {v : V} {vs : List V} {d : Dat} {ds : List Dat} : Dt G v d → DtAll G vs ds → DtAll G (v :: vs) (d :: ds)
inductive DtFs (G : Hp) : List (Str × V) → List (Str × Dat) → Prop
  | nil : DtFs G [] []
  | cons {f : Str} {v : V} {d : Dat} {vs : List (Str × V)} {fs : List (Str × Dat)} : Dt G v d → DtFs G vs fs → DtFs G ((f, v) :: vs) ((f, d) :: fs)
inductive DKv (G : Hp) : List (List L2.Key × V) → List (List Int × Dat) → Prop
  | nil : DKv G [] []
  | cons {k : List Int} {v : V} {d : Dat} {ps : List (List L2.Key × V)} {kvs : List (List Int × Dat)} : Dt G v d → DKv G ps kvs → DKv G ((kI k, v) :: ps) ((k, d) :: kvs)
end
mutual
theorem dt_mono {G G' : Hp} (e : Ex G G') : ∀ {v : V} {d : Dat}, Dt G v d → Dt G' v d
  | _, _, .non => .non
  | _, _, .bl b => .bl b
  | _, _, .int i => .int i
  | _, _, .str x => .str x
  | _, _, .sq h a => .sq (sqg_mono e h) (dta_mono e a)
  | _, _, .row h n => .row (e _ _ h) n
  | _, _, .obj h a => .obj (e _ _ h) (dtf_mono e a)
  | _, _, .dic h a => .dic (e _ _ h) (dkv_mono e a)
theorem dta_mono {G G' : Hp} (e : Ex G G') : ∀ {vs : List V} {ds : List Dat}, DtAll G vs ds → DtAll G' vs ds
  | _, _, .nil => .nil
  | _, _, .cons h t => .cons (dt_mono e h) (dta_mono e t)
theorem dtf_mono {G G' : Hp} (e : Ex G G') : ∀ {vs : List (Str × V)} {fs : List (Str × Dat)}, DtFs G vs fs → DtFs G' vs fs
  | _, _, .nil => .nil
  | _, _, .cons h t => .cons (dt_mono e h) (dtf_mono e t)
theorem dkv_mono {G G' : Hp} (e : Ex G G') : ∀ {ps : List (List L2.Key × V)} {kvs : List (List Int × Dat)}, DKv G ps kvs → DKv G' ps kvs
  | _, _, .nil => .nil
  | _, _, .cons h t => .cons (dt_mono e h) (dkv_mono e t)
end
/-! without instances: as the library's data -/
def sqP : Bool → List PyData → PyData
  | true, ds => .tuple ds
  | false, ds => .list ds
mutual
def Dat.py : Dat → PyData
  | .non => .none
  | .bl b => .bool b
  | .int i => .int i
  | .str x => .str x
  | .sq t ds => sqP t (Dat.pyAll ds)
  | .row ns => .tuple (ns.map .int)
  | .obj _ _ => .none
  | .dic _ => .none
def Dat.pyAll : List Dat → List PyData
  | [] => []
  | d :: ds => d.py :: Dat.pyAll ds
end
mutual
def Dat.flat : Dat → Bool
  | .sq _ ds => Dat.flatAll ds
  | .obj _ _ => false
  | .dic _ => false
  | _ => true
def Dat.flatAll : List Dat → Bool
  | [] => true
  | d :: ds => d.flat && Dat.flatAll ds
end
theorem pyAll_map : ∀ ds : List Dat, Dat.pyAll ds = ds.map Dat.py
  | [] => by rw [Dat.pyAll]; rfl
  | d :: ds => by rw [Dat.pyAll, pyAll_map ds]; rfl
theorem flatAll_all : ∀ ds : List Dat, Dat.flatAll ds = ds.all Dat.flat
  | [] => by rw [Dat.flatAll]; rfl
  | d :: ds => by rw [Dat.flatAll, flatAll_all ds]; rfl
theorem dp_ints {K : PySem.W.Frag} {G : Hp} : ∀ ns : List Int, DpAll K G (ns.map V.int) (ns.map .int)
  | [] => .nil
  | n :: ns => .cons (.int n) (dp_ints ns)
theorem sqb_of {K : PySem.W.Frag} {G : Hp} {a : Addr} {t : Bool} {xs : List V} (h : SqG G a t xs) : SqB K G a t xs := by
  cases t with
  | true => exact .inl (.inl h)
  | false => exact .inl h
mutual
theorem dt_dp {K : PySem.W.Frag} {G : Hp} : ∀ {v : V} {d : Dat}, Dt G v d → d.flat = true → Dp K G v d.py
  | _, _, .non, _ => by rw [Dat.py]; exact .non
  | _, _, .bl b, _ => by rw [Dat.py]; exact .bl b
  | _, _, .int i, _ => by rw [Dat.py]; exact .int i
  | _, _, .str x, _ => by rw [Dat.py]; exact .str x
  | _, _, .sq (t := t) h a, f => by
    rw [Dat.flat] at f
    rw [Dat.py]
    cases t with
    | true => exact .tup (.inl (.inl h)) (dta_dp a f)
    | false => exact .lst (.inl h) (dta_dp a f)
  | _, _, .row h _, _ => by
    rw [Dat.py]
    exact .tup (.inl (.inr ⟨_, h⟩)) (dp_ints _)
  | _, _, .obj _ _, f => by
    rw [Dat.flat] at f
    cases f
  | _, _, .dic _ _, f => by
    rw [Dat.flat] at f
    cases f
theorem dta_dp {K : PySem.W.Frag} {G : Hp} : ∀ {vs : List V} {ds : List Dat}, DtAll G vs ds → Dat.flatAll ds = true → DpAll K G vs (Dat.pyAll ds)
  | _, _, .nil, _ => by rw [Dat.pyAll]; exact .nil
  | _, _, .cons h t, f => by
    rw [Dat.flatAll, Bool.and_eq_true] at f
    rw [Dat.pyAll]
    exact .cons (dt_dp h f.1) (dta_dp t f.2)
end
section
variable {G G' : Hp}
theorem dta_len : ∀ {vs : List V} {ds : List Dat}, DtAll G vs ds → vs.length = ds.length
  | _, _, .nil => rfl
  | _, _, .cons _ t => congrArg (· + 1) (dta_len t)
theorem dta_get : ∀ {vs : List V} {ds : List Dat} {i : Nat} {d : Dat}, DtAll G vs ds → ds[i]? = some d → ∃ v, vs[i]? = some v ∧ Dt G v d
  | _, _, _, _, .nil, e => by simp at e
  | _, _, 0, _, .cons h _, e => by simp at e; subst e; exact ⟨_, rfl, h⟩
  | _, _, i + 1, d, .cons _ t, e => by
    obtain ⟨v, h1, h2⟩ := dta_get (i := i) (d := d) t (by simpa using e)
    exact ⟨v, by simpa using h1, h2⟩
theorem dta_back : ∀ {vs : List V} {ds : List Dat} {i : Nat} {v : V}, DtAll G vs ds → vs[i]? = some v → ∃ d, ds[i]? = some d ∧ Dt G v d
  | _, _, _, _, .nil, e => by simp at e
  | _, _, 0, _, .cons h _, e => by simp at e; subst e; exact ⟨_, rfl, h⟩
  | _, _, i + 1, d, .cons _ t, e => by
    obtain ⟨v, h1, h2⟩ := dta_back (i := i) (v := d) t (by simpa using e)
    exact ⟨v, by simpa using h1, h2⟩
theorem dta_append : ∀ {vs ws : List V} {ds es : List Dat}, DtAll G vs ds → DtAll G ws es → DtAll G (vs ++ ws) (ds ++ es)
  | _, _, _, _, .nil, h => h
  | _, _, _, _, .cons a t, h => .cons a (dta_append t h)
theorem dta_take : ∀ {vs : List V} {ds : List Dat} (n : Nat), DtAll G vs ds → DtAll G (vs.take n) (ds.take n)
  | _, _, 0, _ => .nil
  | _, _, _ + 1, .nil => .nil
  | _, _, n + 1, .cons a t => .cons a (dta_take n t)
theorem dta_drop : ∀ {vs : List V} {ds : List Dat} (n : Nat), DtAll G vs ds → DtAll G (vs.drop n) (ds.drop n)
  | _, _, 0, h => h
  | _, _, _ + 1, .nil => .nil
  | _, _, n + 1, .cons _ t => dta_drop n t
theorem dta_set : ∀ {vs : List V} {ds : List Dat} (n : Nat) {v : V} {d : Dat}, DtAll G vs ds → Dt G v d → DtAll G (vs.set n v) (ds.set n d)
  | _, _, _, _, _, .nil, _ => .nil
  | _, _, 0, _, _, .cons _ t, h => .cons h t
  | _, _, n + 1, _, _, .cons a t, h => .cons a (dta_set n t h)
theorem dta_erase : ∀ {vs : List V} {ds : List Dat} (n : Nat), DtAll G vs ds → DtAll G (vs.eraseIdx n) (ds.eraseIdx n)
  | _, _, _, .nil => .nil
  | _, _, 0, .cons _ t => t
  | _, _, n + 1, .cons a t => .cons a (dta_erase n t)
theorem dta_reverse : ∀ {vs : List V} {ds : List Dat}, DtAll G vs ds → DtAll G vs.reverse ds.reverse
  | _, _, .nil => .nil
  | _, _, .cons a t => by
    rw [List.reverse_cons, List.reverse_cons]
    exact dta_append (dta_reverse t) (.cons a .nil)
theorem dta_of_ints : ∀ (ns : List Int), DtAll G (ns.map .int) (ns.map .int)
  | [] => .nil
  | n :: ns => .cons (.int n) (dta_of_ints ns)
theorem dta_ints : ∀ {vs : List V} {ns : List Int}, DtAll G vs (ns.map .int) → vs = ns.map .int
  | [], [], _ => rfl
  | [], _ :: _, h => by cases h
  | _ :: _, [], h => by cases h
  | v :: vs, n :: ns, h => by
    cases h with
    | cons h1 h2 =>
      cases h1
      rw [dta_ints h2]
      rfl
theorem dt_sq {t : Bool} {v : V} {ds : List Dat} (h : Dt G v (.sq t ds)) : ∃ a xs, v = .ref a ∧ SqG G a t xs ∧ DtAll G xs ds := by
  cases h with
  | sq h1 h2 => exact ⟨_, _, rfl, h1, h2⟩
theorem dt_row {v : V} {ns : List Int} (h : Dt G v (.row ns)) : ∃ a o, v = .ref a ∧ G a = some (.frz o (.tup (ns.map V.int))) ∧ o.dict = none := by
  cases h with
  | row h1 h2 => exact ⟨_, _, rfl, h1, h2⟩
theorem dt_obj {v : V} {C : Addr} {fs : List (Str × Dat)} (h : Dt G v (.obj C fs)) : ∃ a dx vs, v = .ref a ∧ G a = some (.ins C dx vs) ∧ DtFs G vs fs := by
  cases h with
  | obj h1 h2 => exact ⟨_, _, _, rfl, h1, h2⟩
theorem dtf_get : ∀ {vs : List (Str × V)} {fs : List (Str × Dat)} {f : Str} {d : Dat}, DtFs G vs fs → fs.lookup f = some d → ∃ v, vs.lookup f = some v ∧ Dt G v d
  | _, _, _, _, .nil, e => by cases e
  | _, _, f, d, .cons (f := g) h t, e => by
    rw [List.lookup_cons] at e ⊢
    cases q : f == g with
    | true =>
      rw [q] at e
      cases e
      exact ⟨_, rfl, h⟩
    | false =>
      rw [q] at e
      exact dtf_get t e
theorem dtf_none : ∀ {vs : List (Str × V)} {fs : List (Str × Dat)} {f : Str}, DtFs G vs fs → fs.lookup f = none → vs.lookup f = none
  | _, _, _, .nil, _ => rfl
  | _, _, f, .cons (f := g) h t, e => by
    rw [List.lookup_cons] at e ⊢
    cases q : f == g with
    | true =>
      rw [q] at e
      cases e
    | false =>
      rw [q] at e
      exact dtf_none t e
theorem dtf_len : ∀ {vs : List (Str × V)} {fs : List (Str × Dat)}, DtFs G vs fs → vs.length = fs.length
  | _, _, .nil => rfl
  | _, _, .cons _ t => congrArg (· + 1) (dtf_len t)
theorem dta_map {α : Type} {f : α → Dat} {g : α → V} : ∀ (l : List α), (∀ x ∈ l, Dt G (g x) (f x)) → DtAll G (l.map g) (l.map f)
  | [], _ => .nil
  | x :: l, h => .cons (h x List.mem_cons_self) (dta_map l fun y hy => h y (List.mem_cons_of_mem _ hy))
end
theorem dt_dic {G : Hp} {v : V} {kvs : List (List Int × Dat)} (h : Dt G v (.dic kvs)) : ∃ a o ps, v = .ref a ∧ G a = some (.frz o (.dT ps)) ∧ DKv G ps kvs := by
  cases h with
  | dic h1 h2 => exact ⟨_, _, _, rfl, h1, h2⟩
/-- without what stands at p -/
def hide (p : Addr) (G : Hp) : Hp := fun a => if a = p then none else G a
theorem hide_same {p : Addr} {G : Hp} : hide p G p = none := if_pos rfl
theorem hide_ne {p a : Addr} {G : Hp} (h : a ≠ p) : hide p G a = G a := if_neg h
/-! flat data does not see a locked dict -/
mutual
theorem dt_hide {G : Hp} {p : Addr} {o : PySem.Obj} {ps : List (List L2.Key × V)} (hp : G p = some (.frz o (.dT ps))) : ∀ {v : V} {d : Dat}, Dt G v d → d.flat = true → Dt (hide p G) v d
  | _, _, .non, _ => .non
  | _, _, .bl b, _ => .bl b
  | _, _, .int i, _ => .int i
  | _, _, .str x, _ => .str x
  | _, _, .sq (a := a) (t := t) (xs := xs) h r, f => by
    rw [Dat.flat] at f
    refine .sq ?_ (dta_hide hp r f)
    cases t with
    | true =>
      have h' : G a = some (.tup xs) := h
      have c : a ≠ p := fun z => by rw [z, hp] at h'; cases h'
      show hide p G a = _
      rw [hide_ne c]
      exact h'
    | false =>
      rcases (show Rd G a (.lst xs) from h) with h' | ⟨o', h'⟩
      · have c : a ≠ p := fun z => by rw [z, hp] at h'; cases h'
        exact .inl (by rw [hide_ne c]; exact h')
      · have c : a ≠ p := fun z => by rw [z, hp] at h'; cases h'
        exact .inr ⟨o', by rw [hide_ne c]; exact h'⟩
  | _, _, .row (a := a) h n, _ => by
    have c : a ≠ p := fun z => by rw [z, hp] at h; cases h
    exact .row (by rw [hide_ne c]; exact h) n
  | _, _, .obj _ _, f => by
    rw [Dat.flat] at f
    cases f
  | _, _, .dic _ _, f => by
    rw [Dat.flat] at f
    cases f
theorem dta_hide {G : Hp} {p : Addr} {o : PySem.Obj} {ps : List (List L2.Key × V)} (hp : G p = some (.frz o (.dT ps))) : ∀ {vs : List V} {ds : List Dat}, DtAll G vs ds → Dat.flatAll ds = true → DtAll (hide p G) vs ds
  | _, _, .nil, _ => .nil
  | _, _, .cons h t, f => by
    rw [Dat.flatAll, Bool.and_eq_true] at f
    exact .cons (dt_hide hp h f.1) (dta_hide hp t f.2)
end
/-! dicts -/
def valD (kvs : List (List Int × Dat)) (k : List Int) : Option Dat := (kvs.find? fun p => decide (p.1 = k)).map (·.2)
def putD (kvs : List (List Int × Dat)) (k : List Int) (d : Dat) : List (List Int × Dat) :=
  if (kvs.any fun p => decide (p.1 = k)) = true then kvs.map (fun p => if p.1 = k then (p.1, d) else p) else kvs ++ [(k, d)]
theorem ints_inj : ∀ {k l : List Int}, k.map V.int = l.map V.int → k = l
  | [], [], _ => rfl
  | [], _ :: _, h => by cases h
  | _ :: _, [], h => by cases h
  | a :: k, b :: l, h => by
    rw [List.map_cons, List.map_cons] at h
    injection h with h1 h2
    cases h1
    rw [ints_inj h2]
theorem kI_inj {k l : List Int} (h : kI k = kI l) : k = l := by
  have := congrArg (List.map kV) h
  rw [kI_vals, kI_vals] at this
  exact ints_inj this
theorem kI_dec (k l : List Int) : decide (kI k = kI l) = decide (k = l) := by
  by_cases c : k = l
  · rw [c, decide_eq_true rfl, decide_eq_true rfl]
  · rw [decide_eq_false c, decide_eq_false fun z => c (kI_inj z)]
theorem dkv_val {G : Hp} {k : List Int} : ∀ {ps : List (List L2.Key × V)} {kvs : List (List Int × Dat)}, DKv G ps kvs →
    (valD kvs k = none ∧ valV ps (kI k) = none) ∨ ∃ v d, valD kvs k = some d ∧ valV ps (kI k) = some v ∧ Dt G v d
  | _, _, .nil => .inl ⟨rfl, rfl⟩
  | _, _, .cons (k := j) (v := v) (d := d) (ps := ps) (kvs := kvs) h t => by
    unfold valD valV
    rw [List.find?_cons, List.find?_cons]
    show _ ∨ _
    rw [show decide ((kI j, v).1 = kI k) = decide (j = k) from kI_dec j k]
    by_cases c : j = k
    · rw [show decide ((j, d).1 = k) = true from decide_eq_true c]
      exact .inr ⟨v, d, rfl, rfl, h⟩
    · rw [show decide ((j, d).1 = k) = false from decide_eq_false c]
      exact dkv_val t
theorem dkv_any {G : Hp} {k : List Int} : ∀ {ps : List (List L2.Key × V)} {kvs : List (List Int × Dat)}, DKv G ps kvs → (ps.any fun p => decide (p.1 = kI k)) = kvs.any fun p => decide (p.1 = k)
  | _, _, .nil => rfl
  | _, _, .cons (k := j) h t => by
    rw [List.any_cons, List.any_cons, dkv_any t, show decide ((kI j, _).1 = kI k) = decide (j = k) from kI_dec j k]
theorem dkv_map {G : Hp} {k : List Int} {v : V} {d : Dat} (hv : Dt G v d) : ∀ {ps : List (List L2.Key × V)} {kvs : List (List Int × Dat)}, DKv G ps kvs →
    DKv G (ps.map fun p => if p.1 = kI k then (p.1, v) else p) (kvs.map fun p => if p.1 = k then (p.1, d) else p)
  | _, _, .nil => .nil
  | _, _, .cons (k := j) h t => by
    rw [List.map_cons, List.map_cons]
    by_cases c : j = k
    · rw [if_pos (show (kI j, _).1 = kI k by rw [c]), if_pos (show (j, _).1 = k from c)]
      exact .cons hv (dkv_map hv t)
    · rw [if_neg (show ¬ (kI j, _).1 = kI k from fun z => c (kI_inj z)), if_neg (show ¬ (j, _).1 = k from c)]
      exact .cons h (dkv_map hv t)
theorem dkv_snoc {G : Hp} {k : List Int} {v : V} {d : Dat} (hv : Dt G v d) : ∀ {ps : List (List L2.Key × V)} {kvs : List (List Int × Dat)}, DKv G ps kvs → DKv G (ps ++ [(kI k, v)]) (kvs ++ [(k, d)])
  | _, _, .nil => .cons hv .nil
  | _, _, .cons h t => .cons h (dkv_snoc hv t)
theorem dkv_put {G : Hp} {k : List Int} {v : V} {d : Dat} (hv : Dt G v d) {ps : List (List L2.Key × V)} {kvs : List (List Int × Dat)} (h : DKv G ps kvs) : DKv G (putK ps (kI k) v) (putD kvs k d) := by
  unfold putK putD
  rw [dkv_any h]
  split
  · exact dkv_map hv h
  · exact dkv_snoc hv h
theorem dkv_len {G : Hp} : ∀ {ps : List (List L2.Key × V)} {kvs : List (List Int × Dat)}, DKv G ps kvs → ps.length = kvs.length
  | _, _, .nil => rfl
  | _, _, .cons _ t => congrArg (· + 1) (dkv_len t)
theorem dkv_keys {G : Hp} : ∀ {ps : List (List L2.Key × V)} {kvs : List (List Int × Dat)}, DKv G ps kvs → ps.map (·.1) = (kvs.map (·.1)).map kI
  | _, _, .nil => rfl
  | _, _, .cons _ t => by
    rw [List.map_cons, List.map_cons, List.map_cons, dkv_keys t]
abbrev tI (ns : List Int) : Dat := .sq true (ns.map .int)
abbrev lI (ns : List Int) : Dat := .sq false (ns.map .int)
end FX
/-! part FB -/
set_option Elab.async false
set_option linter.all false
set_option maxRecDepth 100000
set_option maxHeartbeats 2000000
/-! Judgements over data: in the environment Γ (what each slot holds, as data) the expression e evaluates to the datum d, the statement st ends so. No values, no heaps in sight.
    F : a family of contexts (a comprehension's block runs in many). -/
namespace FX
open PySem PySem.Spec PyProof.Rows L2 Evl

/-! ### the weakest reading -/
section
variable {ι : Type}
def wE (F : ι → Cx) (e : Expr) : TE := fun σ H Q => ∃ te, (∀ i, PE (F i) e te) ∧ te σ H Q
def wT (F : ι → Cx) (e : Expr) : TT := fun σ H Q => ∃ te, (∀ i, PT (F i) e te) ∧ te σ H Q
def wA (F : ι → Cx) (es : List Expr) : TA := fun σ H Q => ∃ te, (∀ i, PA (F i) es te) ∧ te σ H Q
def wS (F : ι → Cx) (st : Stmt) : TS := fun D σ H => ∃ te, (∀ i, PS (F i) st te) ∧ te D σ H
def wSs (F : ι → Cx) (sts : List Stmt) : TS := fun D σ H => ∃ te, (∀ i, PSs (F i) sts te) ∧ te D σ H
variable {F : ι → Cx} {e : Expr} {es : List Expr} {st : Stmt} {sts : List Stmt}
theorem pe_w (i : ι) : PE (F i) e (wE F e) := ⟨fun pins s σ H Q I ⟨_, h, q⟩ => (h i).run pins s σ H Q I q⟩
theorem pt_w (i : ι) : PT (F i) e (wT F e) := ⟨fun pins s σ H Q I ⟨_, h, q⟩ => (h i).run pins s σ H Q I q⟩
theorem pa_w (i : ι) : PA (F i) es (wA F es) := ⟨fun pos pins s σ H Q I ⟨_, h, q⟩ => (h i).run pos pins s σ H Q I q⟩
theorem ps_w (i : ι) : PS (F i) st (wS F st) := ⟨fun pins s σ H D I ⟨_, h, q⟩ => (h i).run pins s σ H D I q⟩
theorem pss_w (i : ι) : PSs (F i) sts (wSs F sts) := ⟨fun pins s σ H D I ⟨_, h, q⟩ => (h i).run pins s σ H D I q⟩
end

/-! ### the contexts -/
/-- the fixed part: the program, the world, what is written, the module's names, the base -/
structure Wd where
  P : Program
  w : World
  K : PySem.W.Frag
  mg : Str → Option Value
  base : Heap
structure Fam (W : Wd) (k : Nat) (N : List Str) {ι : Type} (F : ι → Cx) : Prop where
  prog : ∀ i, (F i).prog = W.P
  w : ∀ i, (F i).w = W.w
  K : ∀ i, (F i).K = W.K
  mg : ∀ i, (F i).mg = W.mg
  base : ∀ i, (F i).base = W.base
  names : ∀ i, (F i).N = N
  calm : ∀ i, (F i).calm = true
  room : ∀ i, Room k (F i).A
  nd : N.Nodup
  own : ∀ i, PassesOwn (model (F i).prog (F i).w) (F i).A (F i).env (F i).xe

/-! ### what a slot holds -/
inductive Sl where
  | no
  | dat (d : Dat)
  | mL (ds : List Dat)
  | mD (kvs : List (List Int × Dat))
  | mO (a C : Addr) (fs : List (Str × Dat))
def Sl.own : Sl → Bool
  | .mL _ => true
  | .mD _ => true
  | .mO _ _ _ => true
  | _ => false
/-- what a value is: data in sight, or an object out of sight (H0 does not know it) -/
def RsOk (H0 : Hp) (v : V) (G H : Hp) : Sl → Prop
  | .no => True
  | .dat d => Dt G v d
  | .mL ds => ∃ a xs, v = .ref a ∧ H0 a = none ∧ G a = none ∧ H a = some (.lst xs) ∧ DtAll G xs ds
  | .mD kvs => ∃ a ps, v = .ref a ∧ H0 a = none ∧ G a = none ∧ H a = some (.dT ps) ∧ DKv G ps kvs
  | .mO a C fs => ∃ dx vs, v = .ref a ∧ H0 a = none ∧ G a = none ∧ H a = some (.ins C dx vs) ∧ DtFs G vs fs
section
variable {H0 H0' G H G' H' : Hp} {v : V} {s : Sl}
theorem rsok_mono (n : Nx G H G' H') (h : RsOk H0 v G H s) : RsOk H0 v G' H' s := by
  cases s with
  | no => trivial
  | dat d => exact dt_mono n.gg h
  | mL ds =>
    obtain ⟨a, xs, e, h0, g, hh, d⟩ := h
    exact ⟨a, xs, e, h0, n.hidL hh g, n.hh _ _ hh, dta_mono n.gg d⟩
  | mD kvs =>
    obtain ⟨a, xs, e, h0, g, hh, d⟩ := h
    exact ⟨a, xs, e, h0, n.hidT hh g, n.hh _ _ hh, dkv_mono n.gg d⟩
  | mO a C fs =>
    obtain ⟨dx, vs, e, h0, g, hh, d⟩ := h
    exact ⟨dx, vs, e, h0, n.hid hh (fun _ => by intro z; cases z) g, n.hh _ _ hh, dtf_mono n.gg d⟩
theorem rsok_back (e : Ex H0 H0') (h : RsOk H0' v G H s) : RsOk H0 v G H s := by
  cases s with
  | no => trivial
  | dat d => exact h
  | mL ds =>
    obtain ⟨a, xs, ev, h0, r⟩ := h
    exact ⟨a, xs, ev, fresh_back e h0, r⟩
  | mD kvs =>
    obtain ⟨a, xs, ev, h0, r⟩ := h
    exact ⟨a, xs, ev, fresh_back e h0, r⟩
  | mO a C fs =>
    obtain ⟨dx, vs, ev, h0, r⟩ := h
    exact ⟨dx, vs, ev, fresh_back e h0, r⟩
end
structure Env (H0 G H : Hp) (σ : L2.St) (Γ : List Sl) : Prop where
  h0 : Ex H0 H
  gh : Ex G H
  len : σ.length = Γ.length
  sl : ∀ (i : Nat) (s : Sl), Γ[i]? = some s → s = .no ∨ ∃ v, σ[i]? = some (some v) ∧ RsOk H0 v G H s
  ap : ∀ (i j : Nat) (s t : Sl) (a : Addr), Γ[i]? = some s → Γ[j]? = some t → s.own = true → t.own = true → σ[i]? = some (some (.ref a)) → σ[j]? = some (some (.ref a)) → i = j
section
variable {H0 G H G' H' : Hp} {σ : L2.St} {Γ : List Sl} {i : Nat} {s : Sl} {v : V}
theorem Env.mono (E : Env H0 G H σ Γ) (n : Nx G H G' H') : Env H0 G' H' σ Γ :=
  ⟨E.h0.trans n.hh, n.gh, E.len, fun i s h => (E.sl i s h).imp id fun ⟨v, a, b⟩ => ⟨v, a, rsok_mono n b⟩, E.ap⟩
theorem Env.get (E : Env H0 G H σ Γ) (h : Γ[i]? = some s) (hs : s ≠ .no) : ∃ v, σ[i]? = some (some v) ∧ RsOk H0 v G H s := (E.sl i s h).resolve_left hs
theorem Env.dat (E : Env H0 G H σ Γ) {d : Dat} (h : Γ[i]? = some (.dat d)) : ∃ v, σ[i]? = some (some v) ∧ Dt G v d := E.get h (by intro z; cases z)
theorem own_addr (o : s.own = true) (h : RsOk H0 v G H s) : ∃ a, v = .ref a ∧ H0 a = none ∧ G a = none ∧ ∃ u, H a = some u := by
  cases s with
  | no => cases o
  | dat d => cases o
  | mL ds => obtain ⟨a, xs, e, h0, g, hh, _⟩ := h; exact ⟨a, e, h0, g, _, hh⟩
  | mD ds => obtain ⟨a, xs, e, h0, g, hh, _⟩ := h; exact ⟨a, e, h0, g, _, hh⟩
  | mO a C fs => obtain ⟨dx, vs, e, h0, g, hh, _⟩ := h; exact ⟨a, e, h0, g, _, hh⟩
/-- a new value in a slot: of something that no slot owns -/
theorem Env.set (E : Env H0 G H σ Γ) (r : RsOk H0 v G H s) (hf : s.own = true → ∀ a, v = .ref a → ∀ (j : Nat) (t : Sl), j ≠ i → Γ[j]? = some t → t.own = true → σ[j]? ≠ some (some (.ref a))) : Env H0 G H (σ.set i (some v)) (Γ.set i s) := by
  refine ⟨E.h0, E.gh, by rw [List.length_set, List.length_set, E.len], fun j t h => ?_, fun j k t u a h1 h2 o1 o2 h3 h4 => ?_⟩
  · by_cases c : i = j
    · subst c
      by_cases hl : i < Γ.length
      · rw [List.getElem?_set_self hl] at h
        cases h
        exact .inr ⟨v, List.getElem?_set_self (by rw [E.len]; exact hl), r⟩
      · rw [List.getElem?_eq_none (by simpa using hl)] at h
        cases h
    · rw [List.getElem?_set_ne c] at h ⊢
      exact E.sl j t h
  · by_cases c : i = j
    · by_cases c2 : i = k
      · exact c.symm.trans c2
      · subst c
        rw [List.getElem?_set_ne c2] at h2 h4
        by_cases hl : i < Γ.length
        · rw [List.getElem?_set_self hl] at h1
          rw [List.getElem?_set_self (by rw [E.len]; exact hl)] at h3
          cases h1
          cases h3
          exact absurd h4 (hf o1 a rfl k u (Ne.symm c2) h2 o2)
        · rw [List.getElem?_eq_none (by simpa using hl)] at h1
          cases h1
    · rw [List.getElem?_set_ne c] at h1 h3
      by_cases c2 : i = k
      · subst c2
        by_cases hl : i < Γ.length
        · rw [List.getElem?_set_self hl] at h2
          rw [List.getElem?_set_self (by rw [E.len]; exact hl)] at h4
          cases h2
          cases h4
          exact absurd h3 (hf o2 a rfl j t (Ne.symm c) h1 o1)
        · rw [List.getElem?_eq_none (by simpa using hl)] at h2
          cases h2
      · rw [List.getElem?_set_ne c2] at h2 h4
        exact E.ap j k t u a h1 h2 o1 o2 h3 h4
/-- what is hidden from (G, H) no slot owns if H does not know it -/
theorem Env.notOwn (E : Env H0 G H σ Γ) {a : Addr} (h : H a = none) {j : Nat} {t : Sl} (ht : Γ[j]? = some t) (o : t.own = true) : σ[j]? ≠ some (some (.ref a)) := fun z => by
  obtain ⟨w, hw, r⟩ := E.get ht (by intro q; subst q; cases o)
  rw [z] at hw
  cases hw
  obtain ⟨b, e, _, _, u, hu⟩ := own_addr o r
  cases e
  rw [h] at hu
  cases hu
/-- a slot forgotten -/
theorem Env.drop (E : Env H0 G H σ Γ) : Env H0 G H σ (Γ.set i .no) := by
  refine ⟨E.h0, E.gh, by rw [List.length_set, E.len], fun j t h => ?_, fun j k t u a h1 h2 o1 o2 h3 h4 => ?_⟩
  · by_cases c : i = j
    · subst c
      by_cases hl : i < Γ.length
      · rw [List.getElem?_set_self hl] at h
        cases h
        exact .inl rfl
      · rw [List.getElem?_eq_none (by simpa using hl)] at h
        cases h
    · rw [List.getElem?_set_ne c] at h
      exact E.sl j t h
  · have key : ∀ {j : Nat} {t : Sl}, (Γ.set i .no)[j]? = some t → t.own = true → Γ[j]? = some t := fun {j t} h o => by
      by_cases c : i = j
      · subst c
        by_cases hl : i < Γ.length
        · rw [List.getElem?_set_self hl] at h
          cases h
          cases o
        · rw [List.getElem?_eq_none (by simpa using hl)] at h
          cases h
      · rw [List.getElem?_set_ne c] at h
        exact h
    exact E.ap j k t u a (key h1 o1) (key h2 o2) o1 o2 h3 h4
end

/-! ### expressions -/
/-- e gives a v of which P holds: P of the heap ahead, v, and what is in sight and all that stands behind -/
abbrev Pr := Hp → V → Hp → Hp → Prop
def XP {ι : Type} (F : ι → Cx) (e : Expr) (Γ : List Sl) (P : Pr) : Prop := ∀ H0 G H σ, Env H0 G H σ Γ → ∀ Q : VK, (∀ v G' H', Nx G H G' H' → P H v G' H' → Q v H') → wE F e σ H Q
abbrev RS (s : Sl) : Pr := fun H v G' H' => RsOk H v G' H' s
abbrev XE {ι : Type} (F : ι → Cx) (e : Expr) (Γ : List Sl) (s : Sl) : Prop := XP F e Γ (RS s)
abbrev XD {ι : Type} (F : ι → Cx) (e : Expr) (Γ : List Sl) (d : Dat) : Prop := XE F e Γ (.dat d)
/-- a sequence, to be read -/
def QOk (K : PySem.W.Frag) (t : Bool) (ds : List Dat) : Pr := fun _ v G H => ∃ a xs, v = .ref a ∧ SqB K H a t xs ∧ DtAll G xs ds
abbrev XQ {ι : Type} (W : Wd) (F : ι → Cx) (e : Expr) (Γ : List Sl) (t : Bool) (ds : List Dat) : Prop := XP F e Γ (QOk W.K t ds)
/-- a test -/
def XB {ι : Type} (F : ι → Cx) (e : Expr) (Γ : List Sl) (b : Bool) : Prop := ∀ H0 G H σ, Env H0 G H σ Γ → ∀ Q : Bool → Hp → Prop, (∀ G' H', Nx G H G' H' → Q b H') → wT F e σ H Q
/-- arguments -/
def XA {ι : Type} (F : ι → Cx) (es : List Expr) (Γ : List Sl) (ds : List Dat) : Prop := ∀ H0 G H σ, Env H0 G H σ Γ → ∀ Q : List V → Hp → Prop, (∀ vs G' H', Nx G H G' H' → DtAll G' vs ds → Q vs H') → wA F es σ H Q
section
variable {ι : Type} {W : Wd} {k : Nat} {N : List Str} {F : ι → Cx} {Γ : List Sl} {a b c e : Expr} {es : List Expr} {d da db dc : Dat} {P : Pr} {s : Sl} {i : Nat}
theorem sqb_ex {K : PySem.W.Frag} {H H' : Hp} {t : Bool} {l : Addr} {xs : List V} (e : Ex H H') (h : SqB K H l t xs) : SqB K H' l t xs := by
  cases t with
  | true => exact ex_t e h
  | false => exact ex_l e h
theorem qok_mono {K : PySem.W.Frag} {t : Bool} {ds : List Dat} {H v G1 H1 G2 H2} (n : Nx G1 H1 G2 H2) (h : QOk K t ds H v G1 H1) : QOk K t ds H v G2 H2 := by
  obtain ⟨a, xs, e, q, r⟩ := h
  exact ⟨a, xs, e, sqb_ex n.hh q, dta_mono n.gg r⟩
theorem XD.is (h : XD F e Γ d) (e' : d = da) : XD F e Γ da := by rw [← e']; exact h
theorem XE.is {t : Sl} (h : XE F e Γ s) (e' : s = t) : XE F e Γ t := by rw [← e']; exact h
theorem XB.is {x y : Bool} (h : XB F e Γ x) (e' : x = y) : XB F e Γ y := by rw [← e']; exact h
theorem XP.imp {P' : Pr} (h : XP F e Γ P) (f : ∀ H v G' H', P H v G' H' → P' H v G' H') : XP F e Γ P' := fun H0 G H σ E Q q => h H0 G H σ E Q fun v G' H' n p => q v G' H' n (f _ _ _ _ p)

/-- a name that holds data -/
theorem xv {x : Str} {pos : Pos} (i : Nat) (hF : Fam W k N F) (hs : Γ[i]? = some (.dat d) := by rfl) (hN : N[i]? = some x := by rfl) (hv : ∀ j, Vis (F j).env.scope x := by first | exact fun _ => Or.inl rfl | exact fun _ => Or.inr (Or.inl rfl) | exact fun _ => Or.inr (Or.inr rfl))
    (hd : (x == ("__debug__" : Str)) = false := by decide) (hcd : (x == ("__classdict__" : Str)) = false := by decide) : XD F (.Name x pos) Γ d := fun H0 G H σ E Q q => by
  obtain ⟨v, h1, h2⟩ := E.dat hs
  exact ⟨tVar i, fun j => pe_var (by rw [hF.names j]; exact hN) (hv j) hd hcd, v, h1, q v G H (Nx.refl E.gh) h2⟩
theorem x_c {v : V} (h : ∀ j, PE (F j) e (tC v)) (hd : ∀ G, Dt G v d) : XD F e Γ d := fun H0 G H σ E Q q => ⟨_, h, q v G H (Nx.refl E.gh) (hd G)⟩
theorem x_int {n : Int} {j pos} : XD F (.Constant (.int n) j pos) Γ (.int n) := x_c (fun _ => pe_int) fun _ => .int n
theorem x_bl {n : Bool} {j pos} : XD F (.Constant (.bool n) j pos) Γ (.bl n) := x_c (fun _ => pe_bl) fun _ => .bl n
theorem x_non {j pos} : XD F (.Constant .none j pos) Γ .non := x_c (fun _ => pe_non) fun _ => .non
theorem x_str {n : Str} {j pos} : XD F (.Constant (.str n) j pos) Γ (.str n) := x_c (fun _ => pe_str) fun _ => .str n

/-- an operation on values, as data -/
def RD (r : R2) (P1 P2 P : Pr) : Prop := ∀ H0 H00 x y G H, Ex G H → P1 H0 x G H → P2 H00 y G H → ∀ Q : VK, (∀ v G' H', Nx G H G' H' → (∀ Ha, Ex Ha H → P Ha v G' H') → Q v H') → r x y H Q
def Stb (P : Pr) : Prop := ∀ H0 v G1 H1 G2 H2, Nx G1 H1 G2 H2 → P H0 v G1 H1 → P H0 v G2 H2
theorem stb_rs {s : Sl} : Stb (RS s) := fun _ _ _ _ _ _ n h => rsok_mono n h
theorem stb_q {K : PySem.W.Frag} {t : Bool} {ds : List Dat} : Stb (QOk K t ds) := fun _ _ _ _ _ _ n h => qok_mono n h
theorem x_op {r : R2} {P1 P2 : Pr} {ee : Expr} (hp : ∀ (t u : TE), (∀ i, PE (F i) a t) → (∀ i, PE (F i) b u) → ∀ i, PE (F i) ee (tOp r t u)) (s1 : Stb P1) (ha : XP F a Γ P1) (hb : XP F b Γ P2) (hr : RD r P1 P2 P) : XP F ee Γ P := fun H0 G H σ E Q q =>
  ⟨_, hp (wE F a) (wE F b) pe_w pe_w, ha H0 G H σ E _ fun x G1 H1 n1 p1 => hb H0 G1 H1 σ (E.mono n1) _ fun y G2 H2 n2 p2 => hr H H1 x y G2 H2 n2.gh (s1 _ _ _ _ _ _ n2 p1) p2 Q fun v G3 H3 n3 p3 => q v G3 H3 ((n1.trans n2).trans n3) (p3 H (n1.hh.trans n2.hh))⟩
/-- r gives a scalar at once -/
theorem rd_val {r : R2} {P1 P2 : Pr} (h : ∀ H0 H00 x y G H, Ex G H → P1 H0 x G H → P2 H00 y G H → ∃ v, Dt G v d ∧ ∀ Q : VK, Q v H → r x y H Q) : RD r P1 P2 (RS (.dat d)) := fun H0 H00 x y G H e a b Q q => by
  obtain ⟨v, hv, hr⟩ := h H0 H00 x y G H e a b
  exact hr Q (q v G H (Nx.refl e) fun _ _ => hv)
theorem rd_I0 {g : Int → Int → V} {i j : Int} (hd : ∀ G, Dt G (g i j) d) : RD (rI0 g) (RS (.dat (.int i))) (RS (.dat (.int j))) (RS (.dat d)) := rd_val fun _ _ x y G H e a b => by
  cases a
  cases b
  exact ⟨_, hd G, fun Q q => ⟨i, j, rfl, rfl, q⟩⟩
theorem rd_I {C : Int → Int → Prop} {g : Int → Int → V} {i j : Int} (hc : C i j) (hd : ∀ G, Dt G (g i j) d) : RD (rI C g) (RS (.dat (.int i))) (RS (.dat (.int j))) (RS (.dat d)) := rd_val fun _ _ x y G H e a b => by
  cases a
  cases b
  exact ⟨_, hd G, fun Q q => ⟨i, j, rfl, rfl, hc, q⟩⟩
section
variable {i j : Int} {pos : Pos}
theorem x_add (ha : XD F a Γ (.int i)) (hb : XD F b Γ (.int j)) : XD F (.BinOp a .Add b pos) Γ (.int (i + j)) := x_op (fun _ _ h1 h2 n => pe_op op_add (h1 n) (h2 n)) stb_rs ha hb (rd_I0 fun _ => .int _)
theorem x_sub (ha : XD F a Γ (.int i)) (hb : XD F b Γ (.int j)) : XD F (.BinOp a .Sub b pos) Γ (.int (i - j)) := x_op (fun _ _ h1 h2 n => pe_op op_sub (h1 n) (h2 n)) stb_rs ha hb (rd_I0 fun _ => .int _)
theorem x_mul (ha : XD F a Γ (.int i)) (hb : XD F b Γ (.int j)) (hc : CMul i j) : XD F (.BinOp a .Mult b pos) Γ (.int (i * j)) := x_op (fun _ _ h1 h2 n => pe_op op_mul (h1 n) (h2 n)) stb_rs ha hb (rd_I hc fun _ => .int _)
theorem pw_of {i : ι} {e : Expr} {t : TT} (h : PT (F i) e t) : True := trivial
theorem x_mod (ha : XD F a Γ (.int i)) (hb : XD F b Γ (.int j)) (hc : 0 < j) : XD F (.BinOp a .Mod b pos) Γ (.int (i % j)) := x_op (fun _ _ h1 h2 n => pe_op op_mod (h1 n) (h2 n)) stb_rs ha hb (rd_I (C := fun _ j => 0 < j) hc fun _ => .int _)
theorem x_fdiv (ha : XD F a Γ (.int i)) (hb : XD F b Γ (.int j)) (hc : 0 < j) (hd : j < 1073741824) : XD F (.BinOp a .FloorDiv b pos) Γ (.int (i / j)) := x_op (fun _ _ h1 h2 n => pe_op op_fdiv (h1 n) (h2 n)) stb_rs ha hb (rd_I (C := CDiv) ⟨hc, hd⟩ fun _ => .int _)
theorem x_pow (ha : XD F a Γ (.int i)) (hb : XD F b Γ (.int j)) (hc : CPow i j) : XD F (.BinOp a .Pow b pos) Γ (.int (i ^ j.toNat)) := x_op (fun _ _ h1 h2 n => pe_op op_pow (h1 n) (h2 n)) stb_rs ha hb (rd_I hc fun _ => .int _)
end
theorem x_un {r : V → Hp → VK → Prop} {op : UnaryOp} {i j : Int} {pos : Pos} (ho : ∀ n, UnR (F n) (unaryOp op) r) (h : XD F a Γ (.int i)) (hr : ∀ H (Q : VK), Q (.int j) H → r (.int i) H Q) : XD F (.UnaryOp op a pos) Γ (.int j) := fun H0 G H σ E Q q =>
  ⟨_, fun n => pe_un (ho n) (pe_w n), h H0 G H σ E _ fun x G1 H1 n1 p1 => by
    cases p1
    exact hr H1 Q (q _ G1 H1 n1 (.int j))⟩
theorem x_neg {i : Int} {pos : Pos} (h : XD F a Γ (.int i)) : XD F (.UnaryOp .USub a pos) Γ (.int (-i)) := x_un (fun _ => un_neg) h fun H Q q => ⟨i, rfl, q⟩
/-! ### comparisons -/
/-- a op b is k -/
def Cm (F : ι → Cx) (Γ : List Sl) (op : CmpOp) (a b : Expr) (k : Bool) : Prop := ∃ r P1 P2, (∀ i, OpR (F i) (compareOp op) r) ∧ Stb P1 ∧ XP F a Γ P1 ∧ XP F b Γ P2 ∧ RD r P1 P2 (RS (.dat (.bl k))) ∧ behindInMarks op b = false
theorem Cm.is {op : CmpOp} {k l : Bool} (h : Cm F Γ op a b k) (e : k = l) : Cm F Γ op a b l := e ▸ h
theorem x_cm {op : CmpOp} {k : Bool} {pos : Pos} (h : Cm F Γ op a b k) : XD F (.Compare a [op] [b] pos) Γ (.bl k) := by
  obtain ⟨r, P1, P2, ho, s1, ha, hb, hr, hm⟩ := h
  exact x_op (fun _ _ h1 h2 n => pe_cmpR (ho n) (h1 n) (h2 n) hm) s1 ha hb hr
theorem b_cm {op : CmpOp} {k : Bool} {pos : Pos} (h : Cm F Γ op a b k) : XB F (.Compare a [op] [b] pos) Γ k := by
  obtain ⟨r, P1, P2, ho, s1, ha, hb, hr, hm⟩ := h
  exact fun H0 G H σ E Q q => ⟨_, fun n => pt_cmpR (ho n) (pe_w n) (pe_w n) hm, ha H0 G H σ E _ fun x G1 H1 n1 p1 => hb H0 G1 H1 σ (E.mono n1) _ fun y G2 H2 n2 p2 => hr H H1 x y G2 H2 n2.gh (s1 _ _ _ _ _ _ n2 p1) p2 _ fun v G3 H3 n3 p3 => by
    have p4 := p3 H (n1.hh.trans n2.hh)
    cases p4
    exact ⟨k, rfl, q G3 H3 ((n1.trans n2).trans n3)⟩⟩
section
variable {i j : Int}
theorem rd_B {p : Int → Int → Bool} : RD (rI0 fun i j => .bl (p i j)) (RS (.dat (.int i))) (RS (.dat (.int j))) (RS (.dat (.bl (p i j)))) := rd_I0 fun _ => .bl _
theorem cm_lt (ha : XD F a Γ (.int i)) (hb : XD F b Γ (.int j)) : Cm F Γ .Lt a b (decide (i < j)) := ⟨_, _, _, fun _ => op_lt, stb_rs, ha, hb, rd_B, nomark _⟩
theorem cm_le (ha : XD F a Γ (.int i)) (hb : XD F b Γ (.int j)) : Cm F Γ .LtE a b (decide (i ≤ j)) := ⟨_, _, _, fun _ => op_le, stb_rs, ha, hb, rd_B, nomark _⟩
theorem cm_gt (ha : XD F a Γ (.int i)) (hb : XD F b Γ (.int j)) : Cm F Γ .Gt a b (decide (i > j)) := ⟨_, _, _, fun _ => op_gt, stb_rs, ha, hb, rd_B, nomark _⟩
theorem cm_ge (ha : XD F a Γ (.int i)) (hb : XD F b Γ (.int j)) : Cm F Γ .GtE a b (decide (i ≥ j)) := ⟨_, _, _, fun _ => op_ge, stb_rs, ha, hb, rd_B, nomark _⟩
theorem dt_inj_int {G : Hp} {x : V} (h : Dt G x (.int i)) : x = .int i := by cases h; rfl
theorem cm_eq (ha : XD F a Γ (.int i)) (hb : XD F b Γ (.int j)) : Cm F Γ .Eq a b (decide (i = j)) := ⟨_, _, _, fun _ => op_eq, stb_rs, ha, hb, rd_val fun _ _ x y G H e p q => by
  cases p
  cases q
  refine ⟨.bl (decide (i = j)), .bl _, fun Q h => ⟨rfl, ?_⟩⟩
  have e1 : decide (V.int i = V.int j) = decide (i = j) := by simp
  rw [e1]
  exact h, nomark _⟩
theorem cm_ne (ha : XD F a Γ (.int i)) (hb : XD F b Γ (.int j)) : Cm F Γ .NotEq a b (decide (i ≠ j)) := ⟨_, _, _, fun _ => op_ne, stb_rs, ha, hb, rd_val fun _ _ x y G H e p q => by
  cases p
  cases q
  refine ⟨.bl (decide (i ≠ j)), .bl _, fun Q h => ⟨rfl, ?_⟩⟩
  have e1 : (!decide (V.int i = V.int j)) = decide (i ≠ j) := by simp
  rw [e1]
  exact h, nomark _⟩
/-- texts -/
theorem cm_eqS {x y : Str} (ha : XD F a Γ (.str x)) (hb : XD F b Γ (.str y)) : Cm F Γ .Eq a b (decide (x = y)) := ⟨_, _, _, fun _ => op_eq, stb_rs, ha, hb, rd_val fun _ _ x y G H e p q => by
  cases p
  cases q
  refine ⟨.bl _, .bl _, fun Q h => ⟨rfl, ?_⟩⟩
  have e1 : decide (V.str x = V.str y) = decide (x = y) := by simp
  rw [e1]
  exact h, nomark _⟩
theorem cm_neS {x y : Str} (ha : XD F a Γ (.str x)) (hb : XD F b Γ (.str y)) : Cm F Γ .NotEq a b (decide (x ≠ y)) := ⟨_, _, _, fun _ => op_ne, stb_rs, ha, hb, rd_val fun _ _ x y G H e p q => by
  cases p
  cases q
  refine ⟨.bl _, .bl _, fun Q h => ⟨rfl, ?_⟩⟩
  have e1 : (!decide (V.str x = V.str y)) = decide (x ≠ y) := by simp
  rw [e1]
  exact h, nomark _⟩
/-- bools -/
theorem cm_eqB {x y : Bool} (ha : XD F a Γ (.bl x)) (hb : XD F b Γ (.bl y)) : Cm F Γ .Eq a b (decide (x = y)) := ⟨_, _, _, fun _ => op_eq, stb_rs, ha, hb, rd_val fun _ _ x y G H e p q => by
  cases p
  cases q
  refine ⟨.bl _, .bl _, fun Q h => ⟨rfl, ?_⟩⟩
  have e1 : decide (V.bl x = V.bl y) = decide (x = y) := by simp
  rw [e1]
  exact h, nomark _⟩
/-- any data -/
theorem cm_eqD (hF : Fam W k N F) (ha : XD F a Γ da) (hb : XD F b Γ db) (fa : da.flat = true) (fb : db.flat = true) (sa : SeqAt.shaped da.py = true) (sb : SeqAt.shaped db.py = true) : Cm F Γ .Eq a b (PyData.eqv da.py db.py) :=
  ⟨rEqD W.K, _, _, fun n => by have := op_eqD (X := F n) (hF.room n).units; rw [hF.K n] at this; exact this, stb_rs, ha, hb, rd_val fun _ _ x y G H e p q => ⟨_, .bl _, fun Q h => ⟨_, _, dt_dp (dt_mono e p) fa, dt_dp (dt_mono e q) fb, sa, sb, h⟩⟩, nomark _⟩
theorem cm_neD (hF : Fam W k N F) (ha : XD F a Γ da) (hb : XD F b Γ db) (fa : da.flat = true) (fb : db.flat = true) (sa : SeqAt.shaped da.py = true) (sb : SeqAt.shaped db.py = true) : Cm F Γ .NotEq a b (!PyData.eqv da.py db.py) :=
  ⟨rNeD W.K, _, _, fun n => by have := op_neD (X := F n) (hF.room n).units; rw [hF.K n] at this; exact this, stb_rs, ha, hb, rd_val fun _ _ x y G H e p q => ⟨_, .bl _, fun Q h => ⟨_, _, dt_dp (dt_mono e p) fa, dt_dp (dt_mono e q) fb, sa, sb, h⟩⟩, nomark _⟩
def Dat.isNon : Dat → Bool
  | .non => true
  | _ => false
theorem dec_non {G : Hp} {v : V} {d : Dat} (h : Dt G v d) : decide (v = V.non) = d.isNon := by
  cases h <;> simp [Dat.isNon]
theorem cm_isN (ha : XD F a Γ d) (hb : XD F b Γ .non) : Cm F Γ .Is a b d.isNon := ⟨_, _, _, fun _ => op_isN, stb_rs, ha, hb, rd_val fun _ _ x y G H e p q => by
  cases q
  exact ⟨.bl d.isNon, .bl _, fun Q h => ⟨rfl, by rw [dec_non p]; exact h⟩⟩, nomark _⟩
theorem cm_notN (ha : XD F a Γ d) (hb : XD F b Γ .non) : Cm F Γ .IsNot a b (!d.isNon) := ⟨_, _, _, fun _ => op_notN, stb_rs, ha, hb, rd_val fun _ _ x y G H e p q => by
  cases q
  exact ⟨.bl (!d.isNon), .bl _, fun Q h => ⟨rfl, by rw [dec_non p]; exact h⟩⟩, nomark _⟩
/-- an int among the ints of a sequence -/
theorem inV_ints (i : Int) (ns : List Int) : inV (.int i) (ns.map .int) = decide (i ∈ ns) := by
  unfold inV
  induction ns with
  | nil => rfl
  | cons m ns ih =>
    rw [List.map_cons, List.any_cons, ih]
    have e : eqV (.int m) (.int i) = decide (m = i) := by
      show (m == i) = decide (m = i)
      by_cases c : m = i
      · rw [c]
        rw [decide_eq_true rfl]
        exact beq_self_eq_true i
      · rw [decide_eq_false c]
        exact beq_eq_false_iff_ne.mpr c
    rw [e]
    by_cases c : m = i
    · rw [decide_eq_true c, Bool.true_or]
      exact (decide_eq_true (List.mem_cons.mpr (.inl c.symm))).symm
    · rw [decide_eq_false c, Bool.false_or]
      by_cases c2 : i ∈ ns
      · rw [decide_eq_true c2, decide_eq_true (List.mem_cons_of_mem _ c2)]
      · rw [decide_eq_false c2, decide_eq_false]
        intro z
        rcases List.mem_cons.mp z with z | z
        · exact c z.symm
        · exact c2 z
theorem flat_ints (ns : List Int) : (ns.map V.int).all flatV = true := by
  rw [List.all_map, List.all_eq_true]
  intro n _
  rfl
theorem q_ints {K : PySem.W.Frag} {t : Bool} {ns : List Int} {H0 : Hp} {v : V} {G H : Hp} (h : QOk K t (ns.map .int) H0 v G H) : ∃ a, v = .ref a ∧ SqB K H a t (ns.map V.int) := by
  obtain ⟨a, xs, e, q, d⟩ := h
  rw [dta_ints d] at q
  exact ⟨a, e, q⟩
theorem sqb_or {K : PySem.W.Frag} {H : Hp} {a : Addr} {t : Bool} {xs : List V} (h : SqB K H a t xs) : SqL K H a xs ∨ SqT K H a xs := by
  cases t with
  | true => exact .inr h
  | false => exact .inl h
theorem cm_in {t : Bool} {ns : List Int} (hF : Fam W k N F) (ha : XD F a Γ (.int i)) (hb : XQ W F b Γ t (ns.map .int)) (hm : behindInMarks .In b = false := by rfl) : Cm F Γ .In a b (decide (i ∈ ns)) :=
  ⟨rIn W.K false, _, _, fun n => by have := op_in_seq (X := F n); rw [hF.K n] at this; exact this, stb_rs, ha, hb, rd_val fun _ _ x y G H e p q => by
    cases p
    obtain ⟨l, rfl, h⟩ := q_ints q
    exact ⟨_, .bl _, fun Q hq => ⟨l, _, rfl, sqb_or h, rfl, flat_ints ns, by rw [inV_ints]; exact hq⟩⟩, hm⟩
theorem cm_notIn {t : Bool} {ns : List Int} (hF : Fam W k N F) (ha : XD F a Γ (.int i)) (hb : XQ W F b Γ t (ns.map .int)) (hm : behindInMarks .NotIn b = false := by rfl) : Cm F Γ .NotIn a b (!decide (i ∈ ns)) :=
  ⟨rIn W.K true, _, _, fun n => by have := op_notIn_seq (X := F n); rw [hF.K n] at this; exact this, stb_rs, ha, hb, rd_val fun _ _ x y G H e p q => by
    cases p
    obtain ⟨l, rfl, h⟩ := q_ints q
    exact ⟨_, .bl _, fun Q hq => ⟨l, _, rfl, sqb_or h, rfl, flat_ints ns, by rw [inV_ints]; exact hq⟩⟩, hm⟩
/-- a op b op2 c, of ints -/
theorem chain_of {op op' : CmpOp} {r r' : R2} {x y : Bool} {i j l : Int} {pos : Pos} (ho : ∀ n, OpR (F n) (compareOp op) r) (ho' : ∀ n, OpR (F n) (compareOp op') r') (ha : XD F a Γ (.int i)) (hb : XD F b Γ (.int j)) (hc : XD F c Γ (.int l))
    (hr : RD r (RS (.dat (.int i))) (RS (.dat (.int j))) (RS (.dat (.bl x)))) (hr' : RD r' (RS (.dat (.int j))) (RS (.dat (.int l))) (RS (.dat (.bl y)))) (hm : lastMarks [op, op'] [b, c] = false) :
    XD F (.Compare a [op, op'] [b, c] pos) Γ (.bl (x && y)) ∧ XB F (.Compare a [op, op'] [b, c] pos) Γ (x && y) := by
  have key : ∀ H0 G H σ, Env H0 G H σ Γ → ∀ Q : VK, (∀ G' H', Nx G H G' H' → Q (.bl (x && y)) H') → tChain r r' (wE F a) (wE F b) (wE F c) σ H Q := fun H0 G H σ E Q q =>
    ha H0 G H σ E _ fun v1 G1 H1 n1 p1 => hb H0 G1 H1 σ (E.mono n1) _ fun v2 G2 H2 n2 p2 => hr H H1 v1 v2 G2 H2 n2.gh (rsok_mono n2 p1) p2 _ fun v3 G3 H3 n3 p3 => by
      have p4 := p3 H (n1.hh.trans n2.hh)
      cases p4
      refine ⟨x, rfl, ?_⟩
      cases x with
      | true =>
        show wE F c σ H3 _
        exact hc H0 G3 H3 σ (E.mono ((n1.trans n2).trans n3)) _ fun v4 G4 H4 n4 p4 => hr' H1 H3 v2 v4 G4 H4 n4.gh (rsok_mono (n3.trans n4) p2) p4 Q fun v5 G5 H5 n5 p5 => by
          have p6 := p5 H3 n4.hh
          cases p6
          exact q G5 H5 ((((n1.trans n2).trans n3).trans n4).trans n5)
      | false => exact q G3 H3 ((n1.trans n2).trans n3)
  exact ⟨fun H0 G H σ E Q q => ⟨_, fun n => pe_chain (ho n) (ho' n) (pe_w n) (pe_w n) (pe_w n) hm, key H0 G H σ E Q fun G' H' n => q _ G' H' n (.bl _)⟩,
    fun H0 G H σ E Q q => ⟨_, fun n => pt_chain (ho n) (ho' n) (pe_w n) (pe_w n) (pe_w n) hm, key H0 G H σ E _ fun G' H' n => ⟨_, rfl, q G' H' n⟩⟩⟩
theorem b_leLe {i j l : Int} {pos : Pos} (ha : XD F a Γ (.int i)) (hb : XD F b Γ (.int j)) (hc : XD F c Γ (.int l)) (hm : lastMarks [.LtE, .LtE] [b, c] = false := by with_unfolding_all rfl) : XB F (.Compare a [.LtE, .LtE] [b, c] pos) Γ (decide (i ≤ j) && decide (j ≤ l)) := (chain_of (fun _ => op_le) (fun _ => op_le) ha hb hc rd_B rd_B hm).2
theorem b_leLt {i j l : Int} {pos : Pos} (ha : XD F a Γ (.int i)) (hb : XD F b Γ (.int j)) (hc : XD F c Γ (.int l)) (hm : lastMarks [.LtE, .Lt] [b, c] = false := by with_unfolding_all rfl) : XB F (.Compare a [.LtE, .Lt] [b, c] pos) Γ (decide (i ≤ j) && decide (j < l)) := (chain_of (fun _ => op_le) (fun _ => op_lt) ha hb hc rd_B rd_B hm).2
end
/-! ### tests -/
theorem b_val {x : Bool} (h : XD F e Γ (.bl x)) (he : ∀ n whole, isTrue e (F n).env whole = (do let v ← whole; standAt e.pos; holding [v] (truthy v)) := by intro _ _; rfl) : XB F e Γ x := fun H0 G H σ E Q q =>
  ⟨_, fun n => pt_val (pe_w n) (he n), h H0 G H σ E _ fun v G1 H1 n p => by
    cases p
    exact ⟨x, rfl, q G1 H1 n⟩⟩
theorem b_not {x : Bool} {pos : Pos} (h : XB F a Γ x) : XB F (.UnaryOp .Not a pos) Γ (!x) := fun H0 G H σ E Q q => ⟨_, fun n => pt_not (pt_w n), h H0 G H σ E _ fun G1 H1 n => q G1 H1 n⟩
/-- a chain of and, of or -/
def wW (F : ι → Cx) (e : Expr) : TT := fun σ H Q => ∃ te, (∀ i, PW (F i) e te) ∧ te σ H Q
theorem pw_w (n : ι) : PW (F n) e (wW F e) := ⟨fun wh pins s σ H Q I ⟨_, h, q⟩ => (h n).run wh pins s σ H Q I q⟩
def XW (F : ι → Cx) (e : Expr) (Γ : List Sl) (b : Bool) : Prop := ∀ H0 G H σ, Env H0 G H σ Γ → ∀ Q : Bool → Hp → Prop, (∀ G' H', Nx G H G' H' → Q b H') → wW F e σ H Q
theorem b_w {x : Bool} (h : XW F e Γ x) : XB F e Γ x := fun H0 G H σ E Q q => by
  obtain ⟨t, h1, h2⟩ := h H0 G H σ E Q q
  exact ⟨t, fun n => (h1 n).pt, h2⟩
theorem w_and1 {x : Bool} {pos : Pos} (h : XB F a Γ x) : XW F (.BoolOp .And [a] pos) Γ x := fun H0 G H σ E Q q => ⟨_, fun n => pw_and1 (pt_w n), h H0 G H σ E Q q⟩
theorem w_or1 {x : Bool} {pos : Pos} (h : XB F a Γ x) : XW F (.BoolOp .Or [a] pos) Γ x := fun H0 G H σ E Q q => ⟨_, fun n => pw_or1 (pt_w n), h H0 G H σ E Q q⟩
theorem w_and {x y : Bool} {pos : Pos} {rest : List Expr} (h : XB F a Γ x) (h2 : x = true → XW F (.BoolOp .And (b :: rest) pos) Γ y) : XW F (.BoolOp .And (a :: b :: rest) pos) Γ (x && y) := fun H0 G H σ E Q q =>
  ⟨_, fun n => pw_and (pt_w n) (pw_w n), h H0 G H σ E _ fun G1 H1 n1 => by
    cases x with
    | true => exact h2 rfl H0 G1 H1 σ (E.mono n1) Q fun G2 H2 n2 => q G2 H2 (n1.trans n2)
    | false => exact q G1 H1 n1⟩
theorem w_or {x y : Bool} {pos : Pos} {rest : List Expr} (h : XB F a Γ x) (h2 : x = false → XW F (.BoolOp .Or (b :: rest) pos) Γ y) : XW F (.BoolOp .Or (a :: b :: rest) pos) Γ (x || y) := fun H0 G H σ E Q q =>
  ⟨_, fun n => pw_or (pt_w n) (pw_w n), h H0 G H σ E _ fun G1 H1 n1 => by
    cases x with
    | false => exact h2 rfl H0 G1 H1 σ (E.mono n1) Q fun G2 H2 n2 => q G2 H2 (n1.trans n2)
    | true => exact q G1 H1 n1⟩
/-- as values -/
theorem x_one {op : BoolOp} {pos : Pos} (h : XD F a Γ d) : XD F (.BoolOp op [a] pos) Γ d := fun H0 G H σ E Q q => ⟨_, fun n => pe_one (pe_w n), h H0 G H σ E Q q⟩
theorem x_and {x y : Bool} {pos : Pos} {rest : List Expr} (h : XD F a Γ (.bl x)) (h2 : x = true → XD F (.BoolOp .And (b :: rest) pos) Γ (.bl y)) : XD F (.BoolOp .And (a :: b :: rest) pos) Γ (.bl (x && y)) := fun H0 G H σ E Q q =>
  ⟨_, fun n => pe_and (pe_w n) (pe_w n), h H0 G H σ E _ fun v G1 H1 n1 p => by
    cases p
    refine ⟨x, rfl, ?_⟩
    cases x with
    | true => exact h2 rfl H0 G1 H1 σ (E.mono n1) Q fun v G2 H2 n2 p => q v G2 H2 (n1.trans n2) p
    | false => exact q _ G1 H1 n1 (.bl _)⟩
theorem x_or {x y : Bool} {pos : Pos} {rest : List Expr} (h : XD F a Γ (.bl x)) (h2 : x = false → XD F (.BoolOp .Or (b :: rest) pos) Γ (.bl y)) : XD F (.BoolOp .Or (a :: b :: rest) pos) Γ (.bl (x || y)) := fun H0 G H σ E Q q =>
  ⟨_, fun n => pe_or (pe_w n) (pe_w n), h H0 G H σ E _ fun v G1 H1 n1 p => by
    cases p
    refine ⟨x, rfl, ?_⟩
    cases x with
    | false => exact h2 rfl H0 G1 H1 σ (E.mono n1) Q fun v G2 H2 n2 p => q v G2 H2 (n1.trans n2) p
    | true => exact q _ G1 H1 n1 (.bl _)⟩
theorem x_not {x : Bool} {pos : Pos} (h : XD F a Γ (.bl x)) : XD F (.UnaryOp .Not a pos) Γ (.bl (!x)) := fun H0 G H σ E Q q =>
  ⟨_, fun n => pe_not (pe_w n), h H0 G H σ E _ fun v G1 H1 n1 p => by
    cases p
    exact ⟨x, rfl, q _ G1 H1 n1 (.bl _)⟩⟩
theorem x_if {x : Bool} {pos : Pos} {P : Pr} (h : XB F c Γ x) (h1 : x = true → XP F a Γ fun H v G' H' => ∀ Ha, Ex Ha H → P Ha v G' H') (h2 : x = false → XP F b Γ fun H v G' H' => ∀ Ha, Ex Ha H → P Ha v G' H') : XP F (.IfExp c a b pos) Γ P := fun H0 G H σ E Q q =>
  ⟨_, fun n => pe_ifExp (pt_w n) (pe_w n) (pe_w n), h H0 G H σ E _ fun G1 H1 n1 => by
    cases x with
    | true => exact h1 rfl H0 G1 H1 σ (E.mono n1) Q fun v G2 H2 n2 p => q v G2 H2 (n1.trans n2) (p H n1.hh)
    | false => exact h2 rfl H0 G1 H1 σ (E.mono n1) Q fun v G2 H2 n2 p => q v G2 H2 (n1.trans n2) (p H n1.hh)⟩

/-! ### arguments and displays -/
theorem xa_nil : XA F [] Γ [] := fun H0 G H σ E Q q => ⟨_, fun _ => pa_nil, q [] G H (Nx.refl E.gh) .nil⟩
theorem xa_cons {ds : List Dat} (h : XD F e Γ d) (hr : XA F es Γ ds) (hs : ∀ n, starEach (e :: es) (F n).env = (false, eval e (F n).env) :: starEach es (F n).env := by intro _; rfl) : XA F (e :: es) Γ (d :: ds) := fun H0 G H σ E Q q =>
  ⟨_, fun n => pa_cons (pe_w n) (pa_w n) (hs n), h H0 G H σ E _ fun x G1 H1 n1 p1 => hr H0 G1 H1 σ (E.mono n1) _ fun vs G2 H2 n2 p2 => q _ G2 H2 (n1.trans n2) (.cons (dt_mono n2.gg p1) p2)⟩
theorem dt_new {H G : Hp} {p : Addr} {t : Bool} {vs : List V} {ds : List Dat} (e : Ex G H) (hp : H p = none) (h : DtAll G vs ds) : Dt (upd G p (sqO t vs)) (.ref p) (.sq t ds) :=
  .sq sqg_new (dta_mono (Ex.new (fresh_back e hp)) h)
theorem x_tup {ds : List Dat} {x1} {pos : Pos} (h : XA F es Γ ds) (hl : ds.length ≤ 100000 := by exact Nat.le_of_ble_eq_true rfl) : XD F (.Tuple es x1 pos) Γ (.sq true ds) := fun H0 G H σ E Q q =>
  ⟨_, fun n => pe_tup (pa_w n), h H0 G H σ E _ fun vs G1 H1 n1 p1 => ⟨sz_of (by rw [dta_len p1]; exact hl), fun p hp => q _ _ _ (n1.trans (Nx.new n1.gh hp)) (dt_new (t := true) n1.gh hp p1)⟩⟩
/-- a new list, out of sight -/
theorem o_lst {ds : List Dat} {pos : Pos} (h : XA F es Γ ds) (hl : ds.length ≤ 100000 := by exact Nat.le_of_ble_eq_true rfl) : XE F (.List es pos) Γ (.mL ds) := fun H0 G H σ E Q q =>
  ⟨_, fun n => pe_lst (pa_w n), h H0 G H σ E _ fun vs G1 H1 n1 p1 => ⟨sz_of (by rw [dta_len p1]; exact hl), fun p hp => q _ _ _ (n1.trans (Nx.newH n1.gh hp)) ⟨p, vs, rfl, fresh_back n1.hh hp, fresh_back n1.gh hp, upd_same, p1⟩⟩⟩
/-- .. comes into sight -/
theorem XE.pub {ds : List Dat} (h : XE F e Γ (.mL ds)) : XD F e Γ (.sq false ds) := fun H0 G H σ E Q q => h H0 G H σ E Q fun v G1 H1 n1 ⟨a, xs, ev, h0, g, hh, dd⟩ => by
  subst ev
  exact q _ (upd G1 a (.lst xs)) H1 (n1.show h0 g hh) (.sq (t := false) (.of upd_same) (dta_mono (Ex.new g) dd))
theorem x_lst {ds : List Dat} {pos : Pos} (h : XA F es Γ ds) (hl : ds.length ≤ 100000 := by exact Nat.le_of_ble_eq_true rfl) : XD F (.List es pos) Γ (.sq false ds) := (o_lst h hl).pub
/-! ### sequences to be read -/
theorem q_of {t : Bool} {ds : List Dat} (h : XD F e Γ (.sq t ds)) : XQ W F e Γ t ds := fun H0 G H σ E Q q => h H0 G H σ E Q fun v G1 H1 n1 p => by
  obtain ⟨a, xs, ev, r, dd⟩ := dt_sq p
  exact q v G1 H1 n1 ⟨a, xs, ev, sqb_of (sqg_mono n1.gh r), dd⟩
theorem q_row {ns : List Int} (h : XD F e Γ (.row ns)) : XQ W F e Γ true (ns.map .int) := fun H0 G H σ E Q q => h H0 G H σ E Q fun v G1 H1 n1 p => by
  obtain ⟨a, o, ev, r, _⟩ := dt_row p
  exact q v G1 H1 n1 ⟨a, _, ev, .inl (.inr ⟨o, n1.gh _ _ r⟩), dta_of_ints ns⟩
/-- a name whose list is out of sight -/
theorem q_var {x : Str} {pos : Pos} {ds : List Dat} (i : Nat) (hF : Fam W k N F) (hs : Γ[i]? = some (.mL ds) := by rfl) (hN : N[i]? = some x := by rfl) (hv : ∀ j, Vis (F j).env.scope x := by first | exact fun _ => Or.inl rfl | exact fun _ => Or.inr (Or.inl rfl) | exact fun _ => Or.inr (Or.inr rfl))
    (hd : (x == ("__debug__" : Str)) = false := by decide) (hcd : (x == ("__classdict__" : Str)) = false := by decide) : XQ W F (.Name x pos) Γ false ds := fun H0 G H σ E Q q => by
  obtain ⟨v, h1, a, xs, ev, h0, g, hh, dd⟩ := E.get hs (by intro z; cases z)
  exact ⟨tVar i, fun j => pe_var (by rw [hF.names j]; exact hN) (hv j) hd hcd, v, h1, q v G H (Nx.refl E.gh) ⟨a, xs, ev, .inl (.inl hh), dd⟩⟩
end
end FX
/-! part FC -/
set_option Elab.async false
set_option linter.all false
set_option maxRecDepth 100000
set_option maxHeartbeats 2000000
/-! Further rules of the layer: either of two readings; list + list; sorted of any data out of a list, a tuple, a dict; tuple.index; repr of data; len(set(tuple)). -/
namespace FX
open PySem PySem.Spec PyProof.Rows L2 Evl
section
variable {X : Cx}
/-! ### either of two -/
theorem or_op {f : Value → Value → Sem Value} {r r' : R2} (h : OpR X f r) (h' : OpR X f r') : OpR X f (fun x y H Q => r x y H Q ∨ r' x y H Q) := fun pins s σ H x y v u Q I rx ry q => q.elim (h pins s σ H x y v u Q I rx ry) (h' pins s σ H x y v u Q I rx ry)
theorem or_call {f : Value} {r r' : List V → Hp → VK → Prop} (h : CallR X f r) (h' : CallR X f r') : CallR X f (fun xs H Q => r xs H Q ∨ r' xs H Q) := fun pins s σ H xs us Q I rv q => q.elim (h pins s σ H xs us Q I rv) (h' pins s σ H xs us Q I rv)
theorem or_pi {tg iter : Expr} {w1 w2 : TI} (h : PI X tg iter w1) (h' : PI X tg iter w2) : PI X tg iter (fun σ H R => w1 σ H R ∨ w2 σ H R) := by
  obtain ⟨h⟩ := h
  obtain ⟨h'⟩ := h'
  refine ⟨?_⟩
  intro pins s σ H R I q
  rcases q with q | q
  · exact h pins s σ H R I q
  · exact h' pins s σ H R I q
/-! ### list + list -/
def rCatS (K : PySem.W.Frag) : R2 := fun x y H Q => ∃ l b xs zs, x = .ref l ∧ y = .ref b ∧ SqL K H l xs ∧ SqL K H b zs ∧ xs.length + zs.length ≤ sizeLine ∧ ∀ p, H p = none → Q (.ref p) (upd H p (.lst (xs ++ zs)))
theorem op_catS : OpR X (binaryOp .Add) (rCatS X.K) := by
  intro pins s σ H x y v u Q I rx ry h
  obtain ⟨l, b, xs, zs, rfl, rfl, hH, hB, hz, q⟩ := h
  cases rx
  cases ry
  obtain ⟨its, r1, p1, _⟩ := I.list hH
  obtain ⟨its2, r2, p2, _⟩ := I.list hB
  obtain ⟨⟨cls, dd, data, sl⟩, ho, hc, n, hd⟩ := id p1.isList
  obtain ⟨⟨cls2, dd2, data2, sl2⟩, ho2, hc2, n2, hd2⟩ := id p2.isList
  simp only at hc hd hc2 hd2
  subst hc hd hc2 hd2
  have e : its.toArray ++ its2.toArray = (its ++ its2).toArray := by simp
  refine concat_meets ⟨_, ho, rfl⟩ ⟨_, ho2, rfl⟩ noFill_list_add seq_list_add PySem.F.slot_list_add PySem.F.entry_list_add (PySem.F.args_list_add_2 _ _)
    (list_addW l b its.toArray its2.toArray n n2 dd dd2 sl sl2 (by rw [List.size_toArray, List.size_toArray, ← r1.length, ← r2.length]; exact hz)) ⟨ho, ho2, ?_⟩
  rw [e]
  exact ⟨.ref _, _, I.lnew (t' := s.toks) (r1.append r2) (by rw [List.length_append]; omega), rfl, q _ I.fresh⟩
/-- +: ints, tuples, lists -/
def rAddU (K : PySem.W.Frag) : R2 := fun x y H Q => (rI0 fun i j => .int (i + j)) x y H Q ∨ rCatA K x y H Q ∨ rCatS K x y H Q
theorem op_addU : OpR X (binaryOp .Add) (rAddU X.K) := or_op op_add (or_op op_catA op_catS)
end

/-! ### sorted, of what may be collected -/
mutual
theorem reads_lt {h : Heap} : ∀ {v : Value} {d : PyData} {as : List Addr}, Reads h v d as → ∀ a ∈ as, a < h.objs.size
  | _, _, _, .none, a, m => by cases m
  | _, _, _, .bool _, a, m => by cases m
  | _, _, _, .int _ _, a, m => by cases m
  | _, _, _, .str _ _, a, m => by cases m
  | _, _, _, .list h1 _ _ h4, a, m => by
    rcases List.mem_cons.mp m with e | m
    · rw [e]; exact Heap.lt_size h1
    · exact readsAll_lt h4 a m
  | _, _, _, .tuple _ _ _ h4, a, m => readsAll_lt h4 a m
  | _, _, _, .dict h1 _ _ h4 h5, a, m => by
    rcases List.mem_append.mp m with m | m
    · rcases List.mem_cons.mp m with e | m
      · rw [e]; exact Heap.lt_size h1
      · exact readsAll_lt h4 a m
    · exact readsAll_lt h5 a m
theorem readsAll_lt {h : Heap} : ∀ {vs : List Value} {ds : List PyData} {as : List Addr}, ReadsAll h vs ds as → ∀ a ∈ as, a < h.objs.size
  | _, _, _, .nil, a, m => by cases m
  | _, _, _, .cons h1 h2, a, m => by
    rcases List.mem_append.mp m with m | m
    · exact reads_lt h1 a m
    · exact readsAll_lt h2 a m
end
section
open PySem.W PySem.Calls
variable {prog : Program} {w : World} {A : Around} {E : Value → Shared → Prop} {s : Shared} {β : Type} {bs : List β} {enc : β → PyData} {R : Value → β → Prop}
theorem swo_no : SrtO.Swo (fun (_ _ : Value) => false) := ⟨fun _ _ h => (nomatch h), fun _ _ _ _ _ => rfl⟩
theorem perm_short {α : Type} : ∀ {l m : List α}, l.Perm m → m.length < 2 → l = m
  | l, [], h, _ => List.Perm.eq_nil h
  | l, [x], h, _ => List.perm_singleton.mp h
  | _, _ :: _ :: _, _, h => absurd h (by simp)
/-- sorted(r): a new list of what r collects, sorted as data -/
theorem sorted_of {r : Value} {vs : List Value} {Q : Value → Shared → Prop}
    (hcol : ∀ Q' : List Value → Shared → Prop, (∀ h' tk, (∀ b o, s.heap.get? b = some o → h'.get? b = some o) → Q' vs { s with heap := h', toks := tk }) → wpAny (model prog w) A.in1 (collect r) Q' E s)
    (e : EachIs R vs bs) (er : EachIs (fun v b => ∃ as, Reads s.heap v (enc b) as) vs bs) (hal : AllAlike (bs.map enc)) (hk : Sortable (bs.map enc) ∨ bs.length < 2) (hL : bs.length ≤ sizeLine)
    (hu : ∀ b, b ∈ bs → A.units + 2 + (enc b).depth < cLine)
    (h : ∀ (h1 : Heap) (t1 : Nat), (∀ b o, s.heap.get? b = some o → h1.get? b = some o) → ∀ (h' : Heap) (n : Nat) (out : List Value), (∀ b o, h1.get? b = some o → h'.get? b = some o) → h'.get? h1.objs.size = some (seqObj "list" out.toArray n) →
      EachIs R out (bs.mergeSort (dataLe false enc)) → Q (.ref h1.objs.size) { s with heap := h', toks := t1 }) :
    wpAny (model prog w) A (call (.builtin "sorted") [r]) Q E s := by
  refine call_function_entry kind_sorted plain_sorted entry_sorted (args_sorted1 _) ?_
  unfold Builtin.«sorted»
  refine wpAny_bind (m := checkCount "sorted" 1 1 _) (wpAny_pure ?_)
  refine wpAny_bind (hcol _ fun h1 tk k1 => ?_)
  have hlen : vs.length ≤ sizeLine := by rw [e.length]; exact hL
  refine wpAny_bind (wpAny_newList ?_ hlen)
  have hS : (h1.push (seqObj "list" vs.toArray 0)).get? h1.objs.size = some (seqObj "list" vs.toArray 0) := Heap.get?_push_size _ rfl
  have old : ∀ out b o, h1.get? b = some o → (sortedHeap (h1.push (seqObj "list" vs.toArray 0)) h1.objs.size vs out).get? b = some o := fun out b o q => by
    rw [sortedHeap_old (Nat.ne_of_lt (Heap.lt_size q)) (Heap.lt_size (Heap.get?_push_of_some _ q))]
    exact Heap.get?_push_of_some _ q
  refine wpAny_bind (wpAny_holding ?_)
  show wpAny (model prog w) A.in1 (call (.builtin "list.sort") [.ref h1.objs.size]) _ E { s with heap := h1.push (seqObj "list" vs.toArray 0), toks := tk }
  by_cases hb : bs.length < 2
  · refine wpAny_call_entry slot_list_sort ⟨_, hS, rfl⟩ entry_list_sort
      (SrtO.list_sort_ord swo_no hS hlen (fun h2 => absurd hb (by rw [← e.length]; omega)) fun out q1 q2 => ⟨.none, rfl, ?_⟩) (args_list_sort _)
    have eo : out = vs := perm_short q2.perm (by rw [e.length]; exact hb)
    subst eo
    obtain ⟨n, hn⟩ := sortedHeap_at (out := out.toArray) hS
    refine wpAny_pure ⟨_, rfl, h h1 tk k1 _ n out (old _) hn ?_⟩
    have em : bs.mergeSort (dataLe false enc) = bs := by
      match bs, hb with
      | [], _ => exact List.mergeSort_nil
      | [b], _ => exact List.mergeSort_singleton b
      | _ :: _ :: _, hb => exact absurd hb (by simp)
    rw [em]
    exact e
  · have hk' : Sortable (bs.map enc) := hk.resolve_right hb
    have er' : EachIs (fun v b => ∃ as, Reads (h1.push (seqObj "list" vs.toArray 0)) v (enc b) as ∧ h1.objs.size ∉ as) vs bs := er.mono fun v b ⟨as, q⟩ => by
      have q1 := PyProof.Rows.Reads.keeps k1 q
      exact ⟨as, PyProof.Rows.Reads.keeps (fun _ _ z => Heap.get?_push_of_some _ z) q1, fun m => absurd (reads_lt q1 _ m) (Nat.lt_irrefl _)⟩
    refine list_sort_data (A := A.in1) (s := { s with heap := h1.push (seqObj "list" vs.toArray 0), toks := tk }) hS e er' hal hk' hL (fun b hb' => by
      have := hu b hb'
      show A.units + 1 + 1 + (enc b).depth < cLine
      omega) fun out hlo ho => ?_
    obtain ⟨n, hn⟩ := sortedHeap_at (out := out.toArray) hS
    exact wpAny_pure ⟨_, rfl, h h1 tk k1 _ n out (old _) hn ho⟩
end

section
variable {X : Cx} {pins : List (Addr × Obj)} {σ : L2.St} {G H : Hp} {s : Shared}
theorem each_dt {H : Hp} : ∀ {xs : List V} {us : List Value} {ds : List Dat}, Vals xs us → DtAll H xs ds → PySem.W.EachIs (fun u d => ∃ v, RelV v u ∧ Dt H v d) us ds
  | _, _, _, .nil, .nil => .nil
  | _, _, _, .cons r t, .cons a b => .cons ⟨_, r, a⟩ (each_dt t b)
theorem each_reads (I : Inv X pins σ H s) : ∀ {xs : List V} {us : List Value} {ds : List Dat}, Vals xs us → DtAll H xs ds → Dat.flatAll ds = true → PySem.W.EachIs (fun u d => ∃ as, Reads s.heap u (Dat.py d) as) us ds
  | _, _, _, .nil, .nil, _ => .nil
  | _, _, _, .cons r t, .cons a b, f => by
    rw [Dat.flatAll, Bool.and_eq_true] at f
    exact .cons (Dp.reads I _ _ _ (dt_dp a f.1) r) (each_reads I t b f.2)
theorem dt_each {H : Hp} : ∀ {us : List Value} {ds : List Dat}, PySem.W.EachIs (fun u d => ∃ v, RelV v u ∧ Dt H v d) us ds → ∃ ys, Vals ys us ∧ DtAll H ys ds
  | _, _, .nil => ⟨[], .nil, .nil⟩
  | _, _, .cons ⟨v, r, a⟩ t => by
    obtain ⟨ys, h1, h2⟩ := dt_each t
    exact ⟨v :: ys, .cons r h1, .cons a h2⟩
/-- what may be sorted -/
structure SortOk (ds : List Dat) : Prop where
  fl : Dat.flatAll ds = true
  al : PySem.W.AllAlike (ds.map Dat.py)
  so : PySem.W.Sortable (ds.map Dat.py) ∨ ds.length < 2
  le : ds.length ≤ 100000
  de : ∀ d ∈ ds, d.py.depth ≤ 20
abbrev sortD (ds : List Dat) : List Dat := ds.mergeSort (PySem.W.dataLe false Dat.py)
/-- from a list or a tuple -/
def rSortD (K : PySem.W.Frag) : List V → Hp → VK → Prop := fun vs H Q => ∃ a xs ds G, vs = [V.ref a] ∧ (SqL K H a xs ∨ SqT K H a xs) ∧ Ex G H ∧ DtAll G xs ds ∧ SortOk ds ∧
  ∀ p ys, H p = none → DtAll G ys (sortD ds) → Q (.ref p) (upd H p (.lst ys))
theorem sort_end {ds : List Dat} {Q : VK} (I : Inv X pins σ H s) (ok : SortOk ds) (hu : X.A.units + 30 < cLine) {r : Value} {us : List Value} {xs : List V} (rv : Vals xs us) (eg : Ex G H) (hd : DtAll G xs ds)
    (hcol : ∀ (Q' : List Value → Shared → Prop) (E : Value → Shared → Prop), (∀ h' tk, (∀ b o, s.heap.get? b = some o → h'.get? b = some o) → Q' us { s with heap := h', toks := tk }) → wpAny (model X.prog X.w) X.A.in1 (collect r) Q' E s)
    (q : ∀ p ys, H p = none → DtAll G ys (sortD ds) → Q (.ref p) (upd H p (.lst ys))) : wpAny (model X.prog X.w) X.A (call (.builtin "sorted") [r]) (EP X pins σ Q) X.xe s := by
  refine sorted_of (bs := ds) (enc := Dat.py) (R := fun u d => ∃ v, RelV v u ∧ Dt G v d) (fun Q' => hcol Q' X.xe) (each_dt rv hd) (each_reads I rv (dta_mono eg hd) ok.fl) ok.al ok.so (sz_of ok.le) (fun d hd' => ?_)
    fun h1 t1 k1 h' n out k2 ho he => ?_
  · have := ok.de d hd'
    show X.A.units + 2 + d.py.depth < cLine
    omega
  · obtain ⟨ys, r1, r2⟩ := dt_each he
    have I1 : Inv X pins σ H { s with heap := h1, toks := t1 } := I.kept k1
    have hlen : ys.length ≤ sizeLine := by
      rw [dta_len r2, List.length_mergeSort]
      exact sz_of ok.le
    exact ⟨.ref h1.objs.size, upd H h1.objs.size (.lst ys), I1.laid (t' := t1) k2 (Nat.le_refl _) ⟨hlen, out, n, r1, ho⟩, rfl, q _ _ (I1.hok.fresh (Nat.le_refl _)) r2⟩
theorem cr_sortD (hu : X.A.units + 30 < cLine) : CallR X (.builtin "sorted") (rSortD X.K) := by
  intro pins s σ H vs us Q I rv h
  obtain ⟨a, xs, ds, G, rfl, hq, eg, hd, ok, q⟩ := h
  obtain ⟨u, rfl, rx⟩ := vals1 rv
  cases rx
  rcases hq with hq | hq
  · obtain ⟨its, r', pl, hz⟩ := I.list hq
    have hlen := r'.length
    obtain ⟨o, ho, hc, n, hdt⟩ := pl.isList
    refine sort_end I ok hu r' eg hd (fun Q' E k => ?_) q
    refine PySem.wpAny_collect_seq a (.inl rfl) ho hc hdt (fun h' k1 => ?_) (by simp only [List.size_toArray]; omega)
    have := k h' s.toks k1
    simpa using this
  · obtain ⟨its, r', pl, hz⟩ := I.tuple hq
    have hlen := r'.length
    obtain ⟨o, ho, hc, n, hdt⟩ := pl
    refine sort_end I ok hu r' eg hd (fun Q' E k => ?_) q
    refine PySem.wpAny_collect_seq a (.inr rfl) ho hc hdt (fun h' k1 => ?_) (by simp only [List.size_toArray]; omega)
    have := k h' s.toks k1
    simpa using this
/-- the keys as they stand -/
theorem keys_dt {H : Hp} : ∀ {kvs : List (List L2.Key × V)} {bs : List Addr} {ks : List (List Int)}, IsKeys H kvs bs → kvs.map (·.1) = ks.map kI → DtAll H (bs.map V.ref) (ks.map tI)
  | _, _, [], .nil, _ => .nil
  | _, _, _ :: _, .nil, e => by cases e
  | _, _, [], .cons _ _, e => by cases e
  | _, _, k :: ks, .cons (a := a) h t, e => by
    obtain ⟨e1, e2⟩ := List.cons.inj e
    refine .cons (.sq (t := true) (h.trans ?_) (dta_of_ints k)) (keys_dt t e2)
    have e3 : a.1 = kI k := e1
    rw [e3, kI_vals]
/-- from a dict whose keys are tuples of ints -/
def rSortK : List V → Hp → VK → Prop := fun vs H Q => ∃ (d : Addr) (kvs : List (List L2.Key × V)) (ks : List (List Int)), vs = [V.ref d] ∧ Rd H d (.dT kvs) ∧ kvs.map (·.1) = ks.map kI ∧ SortOk (ks.map tI) ∧
  ∀ p ys, H p = none → DtAll H ys (sortD (ks.map tI)) → Q (.ref p) (upd H p (.lst ys))
theorem cr_sortK (hu : X.A.units + 30 < cLine) (hc : X.calm = true) : CallR X (.builtin "sorted") rSortK := by
  intro pins s σ H vs us Q I rv h
  obtain ⟨d, kvs, ks, rfl, hd, hk, ok, q⟩ := h
  obtain ⟨u, rfl, rx⟩ := vals1 rv
  cases rx
  obtain ⟨z, hs, xs, pr, o, es, ep, ho, hx, hdt, he, hn⟩ := (show ObjOk X.prog X.w H s.heap d (.dT kvs) from hd.ok I.hok)
  have l1 : es.size = xs.length := size_of_entries he
  have l2 : kvs.length = xs.length := Paired.length pr
  have rv2 : Vals ((xs.map fun x => x.2.1).map V.ref) ((xs.map fun x => x.2.1).map Value.ref) := vals_refs _
  refine sort_end I ok hu rv2 (Ex.refl H) (keys_dt (isKeys_of pr) hk) (fun Q' E k => ?_) q
  refine PySem.W.kdu_collect (kdl_raw hs hx hdt) (I.ok.hd hc) ho (by omega) fun h' tk acc' kp it => ?_
  have ea : acc'.toList = (xs.map fun x => x.2.1).map Value.ref := by
    have hl : acc'.toList.length = xs.length := by rw [Array.length_toList, it.1]; exact l1
    rw [List.map_map]
    apply List.ext_getElem?
    intro j
    rw [List.getElem?_map]
    cases hj : acc'.toList[j]? with
    | none =>
      have h1 := List.getElem?_eq_none_iff.mp hj
      rw [List.getElem?_eq_none (by omega)]
      all_goals rfl
    | some v =>
      obtain ⟨en, hen, hv⟩ := it.2 j v (by rw [← Array.getElem?_toList]; exact hj)
      have qe := entry_at he j
      rw [hen] at qe
      cases hb : xs[j]? with
      | none =>
        rw [hb] at qe
        exact nomatch (show some en = none from qe)
      | some b =>
        rw [hb] at qe
        have e2 : en = entryOfKey (tupleKind (mixKind X.prog X.w)) b := Option.some.inj qe
        rw [hv, e2]
        all_goals rfl
  rw [ea]
  exact k h' tk kp
end
/-! ### tuple.index of a row; len(set(tuple)); repr of data -/
section
variable {X : Cx}
def tyRow (x : V) (H : Hp) : Prop := ∃ (a : Addr) (o : PySem.Obj) (ns : List Int), x = .ref a ∧ H a = some (.frz o (.tup (ns.map V.int))) ∧ o.dict = none
theorem ty_row : TyOk X "tuple" tyRow := by
  intro pins σ H s x v I r ty
  obtain ⟨a, o, ns, rfl, h, hd⟩ := ty
  cases r
  obtain ⟨ho, _, its, rv, o2, ho2, hc, _⟩ := I.hok a _ h
  rw [ho] at ho2
  cases ho2
  refine ⟨⟨_, ho, hc⟩, fun b e => ?_⟩
  cases e
  exact ⟨o, ho, hd⟩
def rIdxT (K : PySem.W.Frag) : V → List V → Hp → VK → Prop := fun x xs H Q => ∃ (a : Addr) (ns : List Int) (k : Int), x = V.ref a ∧ xs = [.int k] ∧ SqT K H a (ns.map V.int) ∧ k ∈ ns ∧ Q (.int ((ns.idxOf k : Nat) : Int)) H
theorem mt_idxT : MtR X "tuple.index" (rIdxT X.K) := by
  intro pins s σ H x xs v us Q I rx rxs h
  obtain ⟨a, ns, k, rfl, rfl, hq, hk, q⟩ := h
  cases rx
  obtain ⟨u, rfl, rk⟩ := vals1 rxs
  obtain ⟨t, rfl⟩ := rk
  obtain ⟨its, r, ⟨o, ho, hc, n, hd⟩, _⟩ := I.tuple hq
  exact PySem.SeqAt.tuple_index_ints (vs := its) ⟨o, ho, hc, n, hd⟩ r.ints hk ⟨.int _, H, I.tok _, ⟨_, rfl⟩, q⟩
def tLenSetT (K : PySem.W.Frag) (ta : TE) : TE := fun σ H Q => ta σ H fun x H1 => ∃ (l : Addr) (ns : List Int), x = .ref l ∧ SqT K H1 l (ns.map V.int) ∧ ns.Nodup ∧ ns.length ≤ 4000 ∧ Q (.int (ns.length : Nat)) H1
theorem pe_lenSetT {X : Cx} {a : Expr} {ta : TE} {p p2 q pos : Pos} (hg : Gl X "len") (hm : X.mg "len" = none) (hg2 : Gl X "set") (hm2 : X.mg "set" = none) (ha : PE X a ta) (hc : X.calm = true)
    (na : starEach [a] X.env = (false, eval a X.env) :: starEach [] X.env) (nb : starEach [.Call (.Name "set" p2) [a] [] q] X.env = (false, eval (.Call (.Name "set" p2) [a] [] q) X.env) :: starEach [] X.env) : PE X (.Call (.Name "len" p) [.Call (.Name "set" p2) [a] [] q] [] pos) (tLenSetT X.K ta) := by
  refine ⟨fun pins s σ H Q I h => ?_⟩
  refine Call_ (ld_blt I hg hm PySem.boot_len ?_)
  refine PyProof.Rows.callWith_builtin1 (PyProof.Rows.args_cons ?_ nb) nb rfl
  refine Call_ (ld_blt I hg2 hm2 PyProof.Rows.boot_set ?_)
  refine PyProof.Rows.callWith_type1 (PyProof.Rows.args_cons (thn (ha.run pins s σ H _ I h) fun v s1 ⟨x, H1, I1, r1, q1⟩ => PyProof.Rows.args_nil ?_) na) na rfl
  obtain ⟨l, ns, rfl, hq, hnd, hl, q1⟩ := q1
  cases r1
  obtain ⟨its, r, pl, hz⟩ := I1.tuple hq
  have hlen : its.toArray.size = ns.length := by rw [List.size_toArray, ← r.length, List.length_map]
  refine call_set_tupI (w := X.w) (P := X.prog) ns (I1.ok.hd hc) (show s1.heap.IsTuple l its.toArray from pl) (by simpa using r.ints) (by unfold scanBound; omega) fun h' tk c hS hcl hk => ?_
  refine PyProof.Rows.args_nil ?_
  obtain ⟨o, es, ep, t, ho, hex, hd, _, hnk, hmem, _, hf, hn, _⟩ := hS
  have ec : c = ns.length := by
    rw [← hn]
    have hp : (es.toList.map keyOf).Perm ns := (List.perm_ext_iff_of_nodup hnk hnd).mpr fun j => by rw [← hmem j]; simp
    have := hp.length_eq
    simpa using this
  have I2 : Inv X pins σ H1 { s1 with heap := h', toks := tk } := I1.kept fun b o e => hk b o e
  exact PySem.call_len_set ho hex hd hf (by rw [hn] <;> omega) ⟨.int ns.length, H1, I2.tok _, ⟨_, by rw [hn, ec]⟩, q1⟩
/-! ### a tuple that is known to have no dict -/
theorem call_row_of {X : Cx} : CallR X (.type "tuple") (fun xs H Q => ∃ (p : Addr) (ns : List Int), xs = [.ref p] ∧ SqL X.K H p (ns.map V.int) ∧ ∀ (l : Addr) (o : PySem.Obj), H l = none → o.dict = none → Q (.ref l) (upd H l (.frz o (.tup (ns.map V.int))))) := by
  intro pins s σ H xs us Q I r h
  obtain ⟨p, ns, rfl, hq, q⟩ := h
  obtain ⟨u, rfl, rx⟩ := vals1 r
  cases rx
  obtain ⟨its, r', pl, hz⟩ := I.list hq
  have hlen := r'.length
  refine call_tuple_list pl.isList (fun h' kp => ?_) (by simp only [List.size_toArray] <;> omega)
  have I1 : Inv X pins σ H { s with heap := h' } := I.kept (t' := s.toks) kp
  have hg : (h'.push { cls := .type "tuple", data := .seq its.toArray }).get? h'.objs.size = some { cls := .type "tuple", data := .seq its.toArray } := Heap.get?_push_size _ rfl
  have I2 : Inv X pins σ (upd H h'.objs.size (.frz { cls := .type "tuple", data := .seq its.toArray } (.tup (ns.map V.int)))) { s with heap := h'.push { cls := .type "tuple", data := .seq its.toArray } } :=
    I1.laid (t' := s.toks) (fun b o e => Heap.get?_push_of_some _ e) (Nat.le_refl _) (show ObjOk X.prog X.w _ _ _ (.frz _ (.tup (ns.map V.int))) from ⟨hg, hz, its, r', IsTup.new _ _⟩)
  exact ⟨.ref h'.objs.size, _, I2, rfl, q _ _ (I1.hok.fresh (Nat.le_refl _)) rfl⟩
/-! ### t[::-1] -/
theorem rev_pick (xs : Array Value) : ((List.range xs.size).filterMap fun (m : Nat) => xs[(((xs.size : Int) - 1) + (m : Int) * (-1)).toNat]?).toArray = xs.toList.reverse.toArray := by
  congr 1
  have e : (fun (m : Nat) => xs[(((xs.size : Int) - 1) + (m : Int) * (-1)).toNat]?) = fun (m : Nat) => xs[(((xs.size : Int) - 1) - (m : Int)).toNat]? := by
    funext m
    rw [show ((xs.size : Int) - 1) + (m : Int) * (-1) = ((xs.size : Int) - 1) - (m : Int) by omega]
  rw [e]
  apply List.ext_getElem?
  intro i
  have key : ∀ n, n ≤ xs.size → (List.range n).filterMap (fun (m : Nat) => xs[(((xs.size : Int) - 1) - (m : Int)).toNat]?) = xs.toList.reverse.take n := fun n => by
    induction n with
    | zero => intro _; rfl
    | succ n ih =>
      intro hn
      rw [List.range_succ, List.filterMap_append, ih (by omega), List.take_add_one]
      congr 1
      rw [List.getElem?_reverse (by rw [Array.length_toList]; omega), Array.length_toList, Array.getElem?_toList]
      have en : (((xs.size : Int) - 1) - (n : Int)).toNat = xs.size - 1 - n := by omega
      rw [List.filterMap_cons, List.filterMap_nil]
      simp only [en]
      rw [Array.getElem?_eq_getElem (show xs.size - 1 - n < xs.size by omega)]
      rfl
  rw [key xs.size (Nat.le_refl _), List.take_of_length_le (by rw [List.length_reverse, Array.length_toList]; omega)]
section
variable {prog : Program} {w : World} {A : Around} {E : Value → Shared → Prop} {s : Shared}
theorem sliceApplied_rev {sl : Addr} {u : Tok} {n : Nat} {Q : Int × Int × Nat → Shared → Prop} (hs : s.heap.IsSliceOf sl .none .none (.int (-1) u)) (h : Q ((n : Int) - 1, -1, n) s) : wpAny (model prog w) A (Builtin.Slice.sliceApplied (.ref sl) (pure (n : Int))) Q E s := by
  obtain ⟨os, hos, hcs, hds⟩ := id hs
  unfold Builtin.Slice.sliceApplied Builtin.Slice.sliceFields
  refine wpAny_bind (wpAny_bind (wpAny_field hos hds (x := .none) rfl (wpAny_bind (wpAny_field hos hds (x := .none) rfl (wpAny_bind (wpAny_field hos hds (x := .int (-1) u) rfl (wpAny_pure ?_)))))))
  refine wpAny_bind (HT.slicePart_ (.int (-1) u) ?_)
  show wpAny _ _ (if ((-1 : Int) == 0) = true then _ else _) _ _ s
  rw [if_neg (by decide)]
  refine wpAny_bind (HT.slicePart_ .none (wpAny_bind (HT.slicePart_ .none (wpAny_bind (wpAny_pure ?_)))))
  have e : Builtin.Slice.slicePlaces ((n : Int) - 1) (-1) (-1) = n := by
    unfold Builtin.Slice.slicePlaces
    rw [if_neg (by decide)]
    by_cases c : (n : Int) - 1 > -1
    · rw [if_pos c, show (-(-1 : Int)) = 1 by decide, Int.ediv_one]
      omega
    · rw [if_neg c]
      omega
  show wpAny _ _ (pure ((n : Int) - 1, (-1 : Int), Builtin.Slice.slicePlaces ((n : Int) - 1) (-1) (-1))) _ _ s
  rw [e]
  exact wpAny_pure h
theorem getItem_tuple_rev {t sl : Addr} {items : Array Value} {u : Tok} {Q : Value → Shared → Prop} (ht : IsTup s.heap t items) (hs : s.heap.IsSliceOf sl .none .none (.int (-1) u))
    (h : Q (.ref s.heap.objs.size) { s with heap := s.heap.push { cls := .type "tuple", data := .seq items.toList.reverse.toArray } }) (hsz : items.size ≤ sizeLine) : wpAny (model prog w) A (getItem (.ref t) (.ref sl)) Q E s := by
  have htake : sizeOk (.seq items.toList.reverse.toArray) := by
    show items.toList.reverse.toArray.size ≤ sizeLine
    rw [List.size_toArray, List.length_reverse, Array.length_toList]
    exact hsz
  obtain ⟨os, hos, hcs, hds⟩ := id hs
  have hTs : s.TypeIs (.ref sl) "slice" := ⟨os, hos, hcs⟩
  unfold getItem
  try with_reducible refine wpAny_holding ?_
  first | refine wpAny_bind (wpAny_pure ?_) | skip
  refine wpAny_bind (wpAny_sequenceKey ht.typeIs (by decide) ?_)
  refine wpAny_bind (wpAny_callSpecial?_slot (name := Str.ofString "__getitem__") ht.typeIs PyProof.Rows.slot_tuple_getitem
    (wpAny_call_entry PyProof.Rows.slot_tuple_getitem ht.typeIs entry_tuple_getitem ?_ (args_tuple_getitem _ _)))
  show wpAny _ _ (Builtin.Tuple.tupleItemsOf (.ref t) >>= _) _ _ s
  refine wpAny_bind (tupleItemsOf_ ht ?_)
  refine wpAny_bind (wpAny_typeOf hTs ?_)
  rw [if_pos (by decide)]
  refine wpAny_bind (sliceApplied_rev hs ?_)
  show wpAny _ _ (if (((items.size : Int) - 1 == 0) && ((-1 : Int) == 1) && (items.size == items.size)) = true then _ else _) _ _ s
  rw [if_neg (by simp), rev_pick]
  first
    | exact wpAny_bind (m := Builtin.Tuple.tupleExact _) (wpAny_newObj_type (wpAny_pure ⟨_, rfl, wpAny_pure h⟩) htake)
    | exact wpAny_bind (m := Builtin.Tuple.tupleExact _) (wpAny_newObj_type (wpAny_bind (wpAny_pure (wpAny_pure ⟨_, rfl, wpAny_pure h⟩))) htake)
    | exact wpAny_bind (wpAny_bind (m := Builtin.Tuple.tupleExact _) (wpAny_newObj_type (wpAny_pure (wpAny_pure ⟨_, rfl, wpAny_pure h⟩)) htake))
    | exact wpAny_bind (wpAny_bind (m := Builtin.Tuple.tupleExact _) (wpAny_newObj_type (wpAny_pure ⟨_, rfl, wpAny_pure h⟩) htake))
end
def tRevT (K : PySem.W.Frag) (te : TE) : TE := fun σ H Q => te σ H fun x H1 => ∃ a xs, x = .ref a ∧ SqT K H1 a xs ∧ ∀ p, H1 p = none → Q (.ref p) (upd H1 p (.tup xs.reverse))
theorem pe_revT {X : Cx} {e : Expr} {te : TE} {k : Nat} {p1 p2 p3 pos : Pos} (he : PE X e te) : PE X (.Subscript e (.Slice none none (some (.UnaryOp .USub (.Constant (.int 1) k p1) p2)) p3) pos) (tRevT X.K te) := by
  refine ⟨fun pins s σ H Q I h => ?_⟩
  refine Subscript_ (thn (he.run pins s σ H _ I h) fun v s1 ⟨x, H1, I1, r1, q1⟩ => ?_)
  obtain ⟨a, xs, ex, hx, q⟩ := q1
  subst ex
  cases r1
  have hst : PO X (some (.UnaryOp .USub (.Constant (.int 1) k p1) p2)) (tPart (tUn (rU fun i => .int (-i)) (tC (.int 1)))) := po_some (pe_un un_neg pe_int)
  refine wpAny_Slice (thn (po_none.run pins s1 σ H1 (fun o H2 => o = none ∧ H2 = H1) I1 ⟨rfl, rfl⟩) fun vl s2 ⟨l, H2, I2, pl, el, e2⟩ => ?_)
  subst el e2
  refine thn (po_none.run pins s2 σ H2 (fun o H3 => o = none ∧ H3 = H2) I2 ⟨rfl, rfl⟩) fun vu s3 ⟨u, H3, I3, pu, eu, e3⟩ => ?_
  subst eu e3
  refine thn (hst.run pins s3 σ H3 (fun o H4 => o = some (-1) ∧ H4 = H3) I3 ⟨1, rfl, -1, rfl, rfl, rfl⟩) fun vs s4 ⟨o, H4, I4, ps, eo, e4⟩ => ?_
  subst eo e4
  have I5 : Inv X pins σ H4 { s4 with heap := s4.heap.push { cls := .type "slice", data := .fields #[vl, vu, vs] } } := I4.kept (t' := s4.toks) fun b ob q => Heap.get?_push_of_some _ q
  obtain ⟨its, r, ht, hz⟩ := I5.tuple hx
  have hlen := r.length
  show wpAny (model X.prog X.w) X.A (subscriptTail e (.Slice none none (some (.UnaryOp .USub (.Constant (.int 1) k p1) p2)) p3) (.ref a) (.ref s4.heap.objs.size)) (EP X pins σ Q) X.xe { s4 with heap := s4.heap.push { cls := .type "slice", data := .fields #[vl, vu, vs] } }
  cases pl
  cases pu
  cases ps with
  | int i t =>
    refine tail_any (ops := [.ref a, .ref s4.heap.objs.size]) ht.typeIs (PyProof.Rows.slot_tuple_getitem.lookup) ?_ (by with_unfolding_all rfl)
    refine getItem_tuple_rev ht (Heap.IsSliceOf.new _ .none .none (.int (-1) t)) ?_ (by rw [List.size_toArray]; omega)
    refine ⟨.ref _, _, I5.laid (t' := s4.toks) (o := .tup xs.reverse) (fun b ob q => Heap.get?_push_of_some _ q) (Nat.le_refl _) ?_, rfl, q _ (I5.hok.fresh (Nat.le_refl _))⟩
    exact ⟨by rw [List.length_reverse]; exact hz, _, r.reverse, IsTup.new _ _⟩
/-! ### enumerate of a tuple -/
def Itet (K : PySem.W.Frag) (a : Addr) : It :=
  ⟨fun i H => ∃ (xs : List V) (x : V), SqT K H a xs ∧ xs[i]? = some x, fun i H v H' => ∃ T x, v = .ref T ∧ H T = none ∧ H' = upd H T (.tup [.int (i : Nat), x]) ∧ ∀ xs, SqT K H a xs → xs[i]? = some x, fun i H => ∃ xs : List V, SqT K H a xs ∧ xs.length = i⟩
theorem turn_enumT {P : Program} {w : World} {K : PySem.W.Frag} {elts : List Expr} {kk : Nat} {tpos : Pos} (a e it : Addr) :
    Turn P w K (.Tuple elts kk tpos) (Itet K a) [e, it] e (fun i h => (∃ old, IsEnum h e it ((i : Nat) : Int) old) ∧ h.IsTupleIter it a i ∧ e ≠ it) where
  mem := by simp
  obj := fun i h st b hb => by
    obtain ⟨⟨old, he⟩, ⟨o, ho, hc, hd⟩, _⟩ := st
    have e' : b = e ∨ b = it := by simpa using hb
    rcases e' with z | z
    · rw [z]; exact ⟨_, he, fun v q => nomatch q⟩
    · rw [z]; exact ⟨o, ho, fun v q => by rw [hd] at q; cases q⟩
  keep := fun i h h' st k => let ⟨⟨old, he⟩, hi, hne⟩ := st; ⟨⟨old, k e (by simp) _ he⟩, hi.at fun o q => k it (by simp) o q, hne⟩
  item := by
    intro X hP hw hK hc i pins s σ H E I hf st hg
    subst hP hw hK
    obtain ⟨⟨old, he⟩, hit, hne⟩ := st
    obtain ⟨xs, x, hq, hx⟩ := hg
    obtain ⟨its, rv, p, hz⟩ := I.tuple hq
    obtain ⟨u, hu, ru⟩ := rv.get hx
    have hel : e < s.heap.objs.size := Heap.lt_size he
    have hil : it < s.heap.objs.size := by obtain ⟨_, q, _⟩ := hit; exact Heap.lt_size q
    have hae : a ≠ e := fun z => by
      obtain ⟨o, ho, hc2, _⟩ := p
      rw [z, he] at ho
      have eo := Option.some.inj ho
      rw [← eo] at hc2
      have hc3 : Value.type "enumerate" = Value.type "tuple" := hc2
      simp at hc3
    have hait : a ≠ it := fun z => by
      obtain ⟨o, ho, hc2, _⟩ := p
      obtain ⟨o2, ho2, hc3, _⟩ := hit
      rw [z, ho2] at ho
      have eo := Option.some.inj ho
      rw [← eo, hc3] at hc2
      simp at hc2
    have hpt : s.heap.IsTuple a its.toArray := p
    have D := Draws.tuple (prog := X.prog) (w := X.w) (A := X.A.in1) (I.ok.hd hc) it a hait its.toArray
    have hlt : i < its.toArray.size := by
      rw [List.size_toArray]
      rcases Nat.lt_or_ge i its.length with z | z
      · exact z
      · rw [List.getElem?_eq_none z] at hu; cases hu
    refine wpAny_pyNext_enum_itemD D he ⟨hit, hpt⟩ hlt hne (by simp [hne, hae.symm]) fun x' h' tk hx' ho hst hT hsz hk => ?_
    have ex' : x' = u := by
      have : its.toArray[i]? = some u := by simpa using hu
      rw [this] at hx'
      exact (Option.some.inj hx').symm
    subst ex'
    refine ⟨_, rfl, wpAny_letOwnedTupleGo_enum (s := { s with heap := h', toks := tk + 1 }) ho fun h'' he' sb => ?_⟩
    have hT2 : h''.get? s.heap.objs.size = some { cls := .type "tuple", data := .seq #[.int i tk, x'] } := (sb.2 _ (Nat.ne_of_gt hel)).trans hT
    have new : ObjOk X.prog X.w (upd H s.heap.objs.size (.tup [.int (i : Nat), x])) h'' s.heap.objs.size (.tup [.int (i : Nat), x]) :=
      ⟨by show 2 ≤ sizeLine; decide, [.int i tk, x'], .cons ⟨_, rfl⟩ (.cons ru .nil), ⟨_, hT2, rfl, _, rfl⟩⟩
    have I1 : Inv X pins σ (upd H s.heap.objs.size (.tup [.int (i : Nat), x])) { s with heap := h'', toks := tk + 1 } :=
      I.turnedNew (ch := [e, it]) (fun b ob hb q => (sb.2 b (fun z => hb (by simp [z]))).trans (hk b ob (fun z => hb (by simp [z])) (fun z => hb (by simp [z])) q)) hf (Nat.le_refl _) new
    refine ⟨.ref s.heap.objs.size, _, I1, rfl, ⟨_, x, rfl, I.hok.fresh (Nat.le_refl _), rfl, fun ys hy => ?_⟩, ⟨⟨x', ?_⟩, hst.1.at fun o q => (sb.2 it (Ne.symm hne)).trans q, hne⟩, fun b hb => ?_⟩
    · rw [I.tuple_inj hy hq]
      exact hx
    · have e1 : ((i + 1 : Nat) : Int) = (i : Int) + 1 := by omega
      rw [e1]; exact he'
    · have hb' : b < s.heap.objs.size := by
        have e' : b = e ∨ b = it := by simpa using hb
        rcases e' with z | z
        · rw [z]; exact hel
        · rw [z]; exact hil
      rw [upd_ne (Nat.ne_of_lt hb')]
      exact (hf b hb).1
  done := by
    intro X hP hw hK hc i pins s σ H E I hf st hg
    subst hP hw hK
    obtain ⟨⟨old, he⟩, hit, hne⟩ := st
    obtain ⟨xs, hq, hx⟩ := hg
    obtain ⟨its, rv, p, hz⟩ := I.tuple hq
    obtain ⟨f0, f1, f2, f3, f4, f5⟩ := hf it (by simp)
    have hl := rv.length
    have hait : a ≠ it := fun z => by
      obtain ⟨o, ho, hc2, _⟩ := p
      obtain ⟨o2, ho2, hc3, _⟩ := hit
      rw [z, ho2] at ho
      have eo := Option.some.inj ho
      rw [← eo, hc3] at hc2
      simp at hc2
    have D := Draws.tuple (prog := X.prog) (w := X.w) (A := X.A.in1) (I.ok.hd hc) it a hait its.toArray
    have es : its.toArray.size = i := by rw [List.size_toArray]; omega
    exact wpAny_pyNext_enum_endD D he ⟨by rw [es]; exact hit, p⟩ fun h' eb => ⟨rfl, I.turned (t' := s.toks) (fun b o hb q => eb b o hb q) f0 f1 f3 f4 f5⟩
  self := fun A i s Q E st h => let ⟨⟨_, he⟩, _⟩ := st; wpAny_pyIter_enum he h
def iEnumT (K : PySem.W.Frag) (ta : TA) : TI := fun σ H R => ta σ H fun vs H1 => ∃ a xs, vs = [.ref a] ∧ SqT K H1 a xs ∧ R (Itet K a) H1
theorem meets_enumerate_newT (l : Addr) (items : Array Value) :
    Meets (Builtin.«enumerate.__new__» ⟨[.type "enumerate", .ref l], []⟩) (fun _ R s => s.heap.IsTuple l items ∧
      R (.ok (.ret (.ref (s.heap.push { cls := .type "tuple_iterator", data := .fields #[.ref l, .int 0 0] }).objs.size)))
        { s with heap := (s.heap.push { cls := .type "tuple_iterator", data := .fields #[.ref l, .int 0 0] }).push { cls := .type "enumerate", data := .fields #[.none, .bool false, .ref s.heap.objs.size, rawInt 0, .none, .none] } }) :=
  .of_wp fun prog w A R s h => by
    obtain ⟨hp, g, d, tk, os⟩ := s; obtain ⟨h1, h⟩ := h
    have hsub := sub_enumerate
    have q1 : ∀ {A' : Around} {E : Value → Shared → Prop} {Q : Value → Shared → Prop}, Q (.ref hp.objs.size) ⟨hp.push { cls := .type "tuple_iterator", data := .fields #[.ref l, .int 0 0] }, g, d, tk, os⟩ → wpAny (model prog w) A' (pyIter (.ref l)) Q E ⟨hp, g, d, tk, os⟩ :=
      fun q => wpAny_pyIter_tuple h1 q
    wp_walk using q1
    refine wpAny_stack_any fun st => wpAny_pure ?_
    split
    · rename_i c _ _ _ _ _
      cases (c == Value.type "enumerate")
      · wp_walk using q1
        exact ⟨_, rfl, h⟩
      · wp_walk using q1
        exact ⟨_, rfl, h⟩
    · wp_walk using q1
      exact ⟨_, rfl, h⟩
theorem call_enumerate_tuple {prog : Program} {w : World} {A : Around} {E : Value → Shared → Prop} {s : Shared} {l : Addr} {items : Array Value} {Q : Value → Shared → Prop} (hL : s.heap.IsTuple l items)
    (h : ∀ h', IsEnum h' (s.heap.objs.size + 1) s.heap.objs.size 0 .none → h'.IsTupleIter s.heap.objs.size l 0 → h'.objs.size = s.heap.objs.size + 2 →
      (∀ b o, s.heap.get? b = some o → h'.get? b = some o) → Q (.ref (s.heap.objs.size + 1)) { s with heap := h' }) :
    wpAny (model prog w) A (call (.type "enumerate") [.ref l]) Q E s := by
  refine callType_new F.called_enumerate (by decide) (F.typeCall_enumerate_1 _) (F.newCall_enumerate_1 _) (fun obj => F.args_object_init_2 obj _) F.entry_enumerate_new
    (meets_enumerate_newT l items) ⟨hL, ?_⟩
  have hz : (s.heap.push { cls := .type "tuple_iterator", data := .fields #[.ref l, .int 0 0] }).objs.size = s.heap.objs.size + 1 := Heap.size_push ..
  show _ ∧ _
  rw [hz]
  have he : IsEnum ((s.heap.push { cls := .type "tuple_iterator", data := .fields #[.ref l, .int 0 0] }).push
      { cls := .type "enumerate", data := .fields #[.none, .bool false, .ref s.heap.objs.size, rawInt 0, .none, .none] }) (s.heap.objs.size + 1) s.heap.objs.size 0 .none := by
    have := Heap.get?_push_size (s.heap.push { cls := .type "tuple_iterator", data := .fields #[.ref l, .int 0 0] })
      (o := { cls := .type "enumerate", data := .fields #[.none, .bool false, .ref s.heap.objs.size, rawInt 0, .none, .none] }) rfl
    rw [hz] at this; exact this
  refine ⟨⟨_, he, rfl⟩, h _ he ⟨_, Heap.get?_push_of_some _ (Heap.get?_push_size _ rfl), rfl, rfl⟩ (by rw [Heap.size_push, hz]) fun b o x => Heap.get?_push_of_some _ (Heap.get?_push_of_some _ x)⟩
theorem pi_enumT {X : Cx} {e : Expr} {ta : TA} {p pos tpos : Pos} {elts : List Expr} {kk : Nat} (hg : Gl X "enumerate") (hm : X.mg "enumerate" = none) (ha : PA X [e] ta) (hs : starEach [e] X.env = [(false, eval e X.env)]) :
    PI X (.Tuple elts kk tpos) (.Call (.Name "enumerate" p) [e] [] pos) (iEnumT X.K ta) := by
  refine ⟨fun pins s σ H R I h => ?_⟩
  refine Call_ (ld_blt I hg hm boot_enumerate (PyProof.Rows.callWith_type1 (thn (ha.run pos pins s σ H _ I h) fun us s1 ⟨vs, H1, I1, r1, q1⟩ => ?_) hs rfl))
  obtain ⟨a, xs, ex, hq, q⟩ := q1
  subst ex
  cases r1 with
  | cons r rr =>
    cases rr
    cases r
    obtain ⟨its, rv, p', hz⟩ := I1.tuple hq
    refine call_enumerate_tuple (show s1.heap.IsTuple a its.toArray from p') fun h' he hit hsz hk => wpAny_pyIter_enum he ?_
    have I2 : Inv X pins σ H1 { s1 with heap := h' } := I1.kept (t' := s1.toks) hk
    refine ⟨s1.heap.objs.size + 1, [s1.heap.objs.size + 1, s1.heap.objs.size], _, _, H1, rfl, I2, turn_enumT a (s1.heap.objs.size + 1) s1.heap.objs.size, ⟨⟨.none, he⟩, hit, Nat.succ_ne_self _⟩, fun b hb => ?_, q⟩
    have e' : b = s1.heap.objs.size + 1 ∨ b = s1.heap.objs.size := by simpa using hb
    have hle : s1.heap.objs.size ≤ b := by
      rcases e' with z | z
      · rw [z]; exact Nat.le_add_right _ _
      · rw [z]; exact Nat.le_refl _
    exact I1.fpOk hle (I1.hok.fresh hle)
theorem walk_enumT {K : PySem.W.Frag} {a : Addr} {xs : List V} : Walk (Itet K a) xs.length (fun H => SqT K H a xs) (YPair (fun i => some (.int (i : Nat))) (fun i => xs[i]?)) := by
  refine ⟨fun i _ hi q => ⟨xs, xs[i], q, by simp [hi]⟩, fun _ q => ⟨xs, q, rfl⟩, fun i H v H' _ q y => ?_⟩
  obtain ⟨T, x, h1, h2, h3, h4⟩ := y
  exact ⟨T, .int (i : Nat), x, h1, h2, h3, rfl, h4 xs q⟩
end
end FX
/-! part FD -/
set_option Elab.async false
set_option linter.all false
set_option maxRecDepth 100000
set_option maxHeartbeats 2000000
/-! Statements, targets, loops, comprehensions, over data. -/
namespace FX
open PySem PySem.Spec PyProof.Rows L2 Evl

/-! ### how a statement ends -/
inductive Out where
  | nx (Γ : List Sl)
  | rt (s : Sl)
  | bk (Γ : List Sl)
  | ct (Γ : List Sl)
def OutOk (G0 H0 G : Hp) (D : Ends) : Out → Prop
  | .nx Γ => ∀ σ G' H', Nx G0 H0 G' H' → Ex G G' → Env H0 G' H' σ Γ → D.nx σ H'
  | .bk Γ => ∀ σ G' H', Nx G0 H0 G' H' → Ex G G' → Env H0 G' H' σ Γ → D.bk σ H'
  | .ct Γ => ∀ σ G' H', Nx G0 H0 G' H' → Ex G G' → Env H0 G' H' σ Γ → D.ct σ H'
  | .rt s => ∀ v G' H', Nx G0 H0 G' H' → Ex G G' → RsOk H0 v G' H' s → D.rt v H'
theorem OutOk.ex {G0 H0 G G1 : Hp} {D : Ends} {o : Out} (e : Ex G G1) (h : OutOk G0 H0 G D o) : OutOk G0 H0 G1 D o := by
  cases o with
  | nx Γ => exact fun σ G' H' n x => h σ G' H' n (e.trans x)
  | bk Γ => exact fun σ G' H' n x => h σ G' H' n (e.trans x)
  | ct Γ => exact fun σ G' H' n x => h σ G' H' n (e.trans x)
  | rt s => exact fun v G' H' n x => h v G' H' n (e.trans x)
def XS {ι : Type} (F : ι → Cx) (st : Stmt) (Γ : List Sl) (o : Out) : Prop := ∀ G0 H0 G H σ, Nx G0 H0 G H → Env H0 G H σ Γ → ∀ D : Ends, OutOk G0 H0 G D o → wS F st D σ H
def XSs {ι : Type} (F : ι → Cx) (sts : List Stmt) (Γ : List Sl) (o : Out) : Prop := ∀ G0 H0 G H σ, Nx G0 H0 G H → Env H0 G H σ Γ → ∀ D : Ends, OutOk G0 H0 G D o → wSs F sts D σ H
section
variable {ι : Type} {W : Wd} {k : Nat} {N : List Str} {F : ι → Cx} {Γ Γ1 Γ2 : List Sl} {a b c e : Expr} {es : List Expr} {st : Stmt} {sts : List Stmt} {d da db dc : Dat} {s : Sl} {o : Out} {pos : Pos}
theorem ss_nil : XSs F [] Γ (.nx Γ) := fun G0 H0 G H σ n E D q => ⟨_, fun _ => pss_nil, q σ G H n (Ex.refl G) E⟩
theorem ss_cons (h : XS F st Γ (.nx Γ1)) (hr : XSs F sts Γ1 o) : XSs F (st :: sts) Γ o := fun G0 H0 G H σ n E D q =>
  ⟨_, fun i => pss_cons (ps_w i) (pss_w i), h G0 H0 G H σ n E _ fun σ' G' H' n' e' E' => hr G0 H0 G' H' σ' n' E' D (q.ex e')⟩
def Out.stop : Out → Bool
  | .nx _ => false
  | _ => true
/-- what stands behind is not reached -/
theorem ss_stop (h : XS F st Γ o) (ho : o.stop = true := by rfl) : XSs F (st :: sts) Γ o := fun G0 H0 G H σ n E D q =>
  ⟨_, fun i => pss_cons (ps_w i) (pss_never (X := F i)), h G0 H0 G H σ n E _ (by cases o <;> first | exact q | cases ho)⟩
theorem ss_one (h : XS F st Γ o) : XSs F [st] Γ o := fun G0 H0 G H σ n E D q => ⟨_, fun i => pss_one (ps_w i), h G0 H0 G H σ n E D q⟩
theorem XS.is {o' : Out} (h : XS F st Γ o) (e : o = o') : XS F st Γ o' := e ▸ h
theorem XSs.is {o' : Out} (h : XSs F sts Γ o) (e : o = o') : XSs F sts Γ o' := e ▸ h
theorem s_pass : XS F (.Pass pos) Γ (.nx Γ) := fun G0 H0 G H σ n E D q => ⟨_, fun _ => ps_pass, q σ G H n (Ex.refl G) E⟩
theorem s_ret (h : XE F e Γ s) : XS F (.Return (some e) pos) Γ (.rt s) := fun G0 H0 G H σ n E D q =>
  ⟨_, fun i => ps_ret (pe_w i), h H0 G H σ E _ fun v G1 H1 n1 p => q v G1 H1 (n.trans n1) n1.gg (rsok_back E.h0 p)⟩
theorem s_retN : XS F (.Return none pos) Γ (.rt (.dat .non)) := fun G0 H0 G H σ n E D q => ⟨_, fun i => ps_retN, q .non G H n (Ex.refl G) .non⟩
theorem s_if {x : Bool} {sa sb : List Stmt} (h : XB F c Γ x) (h1 : x = true → XSs F sa Γ o) (h2 : x = false → XSs F sb Γ o) : XS F (.If c sa sb pos) Γ o := fun G0 H0 G H σ n E D q =>
  ⟨_, fun i => ps_if (pt_w i) (pss_w i) (pss_w i), h H0 G H σ E _ fun G1 H1 n1 => by
    cases x with
    | true => exact h1 rfl G0 H0 G1 H1 σ (n.trans n1) (E.mono n1) D (q.ex n1.gg)
    | false => exact h2 rfl G0 H0 G1 H1 σ (n.trans n1) (E.mono n1) D (q.ex n1.gg)⟩
theorem s_ifT {sa sb : List Stmt} (h : XB F c Γ true) (h1 : XSs F sa Γ o) : XS F (.If c sa sb pos) Γ o := s_if h (fun _ => h1) (fun z => nomatch z)
theorem s_ifF {sa sb : List Stmt} (h : XB F c Γ false) (h1 : XSs F sb Γ o) : XS F (.If c sa sb pos) Γ o := s_if h (fun z => nomatch z) (fun _ => h1)
/-- the test is false, there is no else -/
theorem s_ifN {sa : List Stmt} (h : XB F c Γ false) : XS F (.If c sa [] pos) Γ (.nx Γ) := s_ifF h ss_nil
theorem Env.put {H0 G H : Hp} {σ : L2.St} {i : Nat} {v : V} {Hb : Hp} (E : Env H0 G H σ Γ) (e0 : Ex H0 Hb) (r : RsOk Hb v G H s) (hb : ∀ a, Hb a = none → ∀ (j : Nat) (t : Sl), Γ[j]? = some t → t.own = true → σ[j]? ≠ some (some (.ref a))) : Env H0 G H (σ.set i (some v)) (Γ.set i s) :=
  E.set (rsok_back e0 r) fun o a ev j t _ ht ot => by
    subst ev
    obtain ⟨a', ea, h0, _⟩ := own_addr o r
    cases ea
    exact hb a h0 j t ht ot
/-- x = e -/
theorem s_set {x : Str} {p : Pos} (i : Nat) (hF : Fam W k N F) (h : XE F e Γ s) (hN : N[i]? = some x := by rfl) (hx : ∀ j, Loc (F j).env.scope x := by first | exact fun _ => Or.inl rfl | exact fun _ => Or.inr rfl)
    (hs : ∀ j, swapsWith e (some (.Name x p)) pos.line (F j).env = pure false := by intro _; rfl) (hf : ∀ j, (F j).fn x = true ∨ (F j).env.scope.names.lookup x = some .local := by first | exact fun _ => .inl rfl | exact fun _ => .inr rfl) :
    XS F (.Assign [.Name x p] e pos) Γ (.nx (Γ.set i s)) := fun G0 H0 G H σ n E D q =>
  ⟨_, fun j => ps_set (i := i) (by rw [hF.names j]; exact hF.nd) (by rw [hF.names j]; exact hN) (hx j) (pe_w j) (hs j) (hf j), h H0 G H σ E _ fun v G1 H1 n1 p => by
    refine q _ G1 H1 (n.trans n1) n1.gg ?_
    exact (E.mono n1).put E.h0 p fun a ha j t ht ot => E.notOwn ha ht ot⟩
/-- an expression whose value is dropped -/
theorem s_expr {P : Pr} (h : XP F e Γ P) (hs : ∀ j, swapsWith e none pos.line (F j).env = pure false := by intro _; rfl) : XS F (.Expr e pos) Γ (.nx Γ) := fun G0 H0 G H σ n E D q =>
  ⟨_, fun j => ps_expr (pe_w j) (hs j), h H0 G H σ E _ fun v G1 H1 n1 p => q σ G1 H1 (n.trans n1) n1.gg (E.mono n1)⟩

/-! ### targets -/
def wG (F : ι → Cx) (tg : Expr) : TG := fun v σ H Q => ∃ g, (∀ i, PG (F i) tg g) ∧ g v σ H Q
theorem pg_w {tg : Expr} (n : ι) : PG (F n) tg (wG F tg) := ⟨fun pins s σ H v u Q I r ⟨_, h, q⟩ => (h n).run pins s σ H v u Q I r q⟩
/-- the datum d goes to the target tg, whose slots are is -/
def XG (F : ι → Cx) (tg : Expr) (is : List Nat) (Γ : List Sl) (d : Dat) (Γ' : List Sl) : Prop := ∀ H0 G H σ v, Env H0 G H σ Γ → Dt G v d → ∀ Q : L2.St → Hp → Prop,
  (∀ σ', σ'.length = σ.length → (∀ j, j ∉ is → σ'[j]? = σ[j]?) → Env H0 G H σ' Γ' → Q σ' H) → wG F tg v σ H Q
theorem g_name {x : Str} {p : Pos} (i : Nat) (hF : Fam W k N F) (hN : N[i]? = some x := by rfl) (hx : ∀ j, Loc (F j).env.scope x := by first | exact fun _ => Or.inl rfl | exact fun _ => Or.inr rfl)
    (hf : ∀ j, (F j).fn x = true ∨ (F j).env.scope.names.lookup x = some .local := by first | exact fun _ => .inl rfl | exact fun _ => .inr rfl) : XG F (.Name x p) [i] Γ d (Γ.set i (.dat d)) := fun H0 G H σ v E hd Q q =>
  ⟨_, fun j => pg_name (i := i) (by rw [hF.names j]; exact hF.nd) (by rw [hF.names j]; exact hN) (hx j) (hf j), q _ (List.length_set ..) (fun j hj => List.getElem?_set_ne (fun z => hj (by rw [z]; exact List.mem_singleton.mpr rfl))) (E.set hd fun o => nomatch o)⟩
/-- several targets for several data -/
def wGs (F : ι → Cx) (tgs : List Expr) : TGs := fun v σ H Q => ∃ g, (∀ i, PGs (F i) tgs g) ∧ g v σ H Q
theorem pgs_w {tg : List Expr} (n : ι) : PGs (F n) tg (wGs F tg) := ⟨fun pins s σ H v u Q I r ⟨_, h, q⟩ => (h n).run pins s σ H v u Q I r q⟩
def XGs (F : ι → Cx) (tgs : List Expr) (is : List Nat) (Γ : List Sl) (ds : List Dat) (Γ' : List Sl) : Prop := ∀ H0 G H σ vs, Env H0 G H σ Γ → DtAll G vs ds → ∀ Q : L2.St → Hp → Prop,
  (∀ σ', σ'.length = σ.length → (∀ j, j ∉ is → σ'[j]? = σ[j]?) → Env H0 G H σ' Γ' → Q σ' H) → wGs F tgs vs σ H Q
theorem gs_nil : XGs F [] [] Γ [] Γ := fun H0 G H σ vs E hd Q q => ⟨_, fun _ => pgs_nil, by cases hd; rfl, q σ rfl (fun _ _ => rfl) E⟩
theorem gs_cons {tg : Expr} {tgs : List Expr} {is js : List Nat} {ds : List Dat} (h : XG F tg is Γ d Γ1) (hr : XGs F tgs js Γ1 ds Γ2)
    (hs : ∀ n, (assignEach (tg :: tgs) (F n).env).map (·.2) = assign tg (F n).env :: (assignEach tgs (F n).env).map (·.2) := by intro _; rfl) : XGs F (tg :: tgs) (is ++ js) Γ (d :: ds) Γ2 := fun H0 G H σ vs E hd Q q => by
  cases hd with
  | cons h1 h2 =>
    refine ⟨_, fun n => pgs_cons (pg_w n) (pgs_w n) (hs n), _, _, rfl, h H0 G H σ _ E h1 _ fun σ1 l1 k1 E1 => hr H0 G H σ1 _ E1 h2 _ fun σ2 l2 k2 E2 => q σ2 (l2.trans l1) (fun j hj => ?_) E2⟩
    rw [k2 j fun z => hj (List.mem_append_right _ z), k1 j fun z => hj (List.mem_append_left _ z)]
theorem g_tup {tgs : List Expr} {is : List Nat} {ds : List Dat} {kk : Nat} (hF : Fam W k N F) (h : XGs F tgs is Γ ds Γ1) (hl : ∀ n, (assignEach tgs (F n).env).length = ds.length := by intro _; rfl) (hst : ∀ n, (assignEach tgs (F n).env).findIdx? (·.1) = none := by intro _; rfl) :
    XG F (.Tuple tgs kk pos) is Γ (.sq true ds) Γ1 := fun H0 G H σ v E hd Q q => by
  obtain ⟨l, xs, rfl, hl1, hd1⟩ := dt_sq hd
  refine ⟨gTup W.K ds.length (wGs F tgs), fun n => ?_, l, xs, rfl, .inl (.inl (E.gh _ _ hl1)), dta_len hd1, h H0 G H σ _ E hd1 Q q⟩
  have := pg_tup (pos := pos) (k := kk) (hF.calm n) (pgs_w (F := F) (tg := tgs) n) (hl n) (hst n)
  rw [hF.K n] at this
  exact this
/-- a, b = e -/
theorem s_setT {tgs : List Expr} {is : List Nat} {ds : List Dat} {kk : Nat} {p : Pos} (hF : Fam W k N F) (h : XD F e Γ (.sq true ds)) (hg : XGs F tgs is Γ ds Γ1)
    (hl : ∀ n, (assignEach tgs (F n).env).length = ds.length := by intro _; rfl) (hst : ∀ n, (assignEach tgs (F n).env).findIdx? (·.1) = none := by intro _; rfl)
    (hs : ∀ j, swapsWithSole [.Tuple tgs kk p] e pos.line (F j).env = pure false := by intro _; rfl) (hw : ∀ j, swappedStores [.Tuple tgs kk p] e (F j).env = pure none := by intro _; rfl)
    (h1 : ∀ j, (assignEach [.Tuple tgs kk p] (F j).env).map (·.2) = [assign (.Tuple tgs kk p) (F j).env] := by intro _; rfl) : XS F (.Assign [.Tuple tgs kk p] e pos) Γ (.nx Γ1) := fun G0 H0 G H σ n E D q =>
  ⟨_, fun j => ps_asg (pe_w j) (pg_w j) (hs j) (hw j) (h1 j), h H0 G H σ E _ fun v G1 H1 n1 p => g_tup (kk := kk) hF hg hl hst H0 G1 H1 σ v (E.mono n1) p _ fun σ' _ _ E' => q σ' G1 H1 (n.trans n1) n1.gg E'⟩

/-! ### what is walked -/
def wI (F : ι → Cx) (tg iter : Expr) : TI := fun σ H R => ∃ w, (∀ i, PI (F i) tg iter w) ∧ w σ H R
theorem pi_w {tg iter : Expr} (n : ι) : PI (F n) tg iter (wI F tg iter) := ⟨fun pins s σ H R I ⟨_, h, q⟩ => (h n).run pins s σ H R I q⟩
structure XIok (J : It) (n : Nat) (Gp : Hp → Prop) (Y : Nat → Hp → V → Hp → Prop) (G1 : Hp) (ds : List Dat) : Prop where
  walk : Walk J n Gp Y
  len : ds.length = n
  st : ∀ H, Ex G1 H → Gp H
  yl : ∀ (j : Nat) (G H : Hp) (x : V) (H' : Hp), j < n → Ex G1 G → Ex G H → Y j H x H' → ∃ G' d, ds[j]? = some d ∧ Nx G H G' H' ∧ Dt G' x d
def XI (F : ι → Cx) (tg iter : Expr) (Γ : List Sl) (ds : List Dat) : Prop := ∀ H0 G H σ, Env H0 G H σ Γ → ∀ R : It → Hp → Prop, (∀ J n Gp Y G1 H1, Nx G H G1 H1 → XIok J n Gp Y G1 ds → R J H1) → wI F tg iter σ H R
theorem dta_at {G : Hp} : ∀ {vs : List V} {ds : List Dat} {i : Nat} {v : V}, DtAll G vs ds → vs[i]? = some v → ∃ d, ds[i]? = some d ∧ Dt G v d := dta_back
theorem i_sq {tg iter : Expr} {t : Bool} {ds : List Dat} (hF : Fam W k N F) (h : XD F iter Γ (.sq t ds)) : XI F tg iter Γ ds := fun H0 G H σ E R q => by
  cases t with
  | false =>
    refine ⟨iList W.K (wE F iter), fun n => by have := pi_list (tg := tg) (pe_w (F := F) (e := iter) n); rw [hF.K n] at this; exact this, h H0 G H σ E _ fun v G1 H1 n1 p => ?_⟩
    obtain ⟨l, xs, rfl, hl, hd⟩ := dt_sq p
    refine ⟨l, rfl, ⟨xs, .inl (ex_rd n1.gh hl)⟩, q _ _ _ _ G1 H1 n1 ⟨walk_list (K := W.K) (xs := xs), (dta_len hd).symm, fun H' e => .inl (ex_rd e hl), fun j G' H' x H'' hj e1 e2 y => ?_⟩⟩
    obtain ⟨rfl, hx⟩ := y
    obtain ⟨dd, h1, h2⟩ := dta_back hd hx
    exact ⟨G', dd, h1, Nx.refl e2, dt_mono e1 h2⟩
  | true =>
    refine ⟨iTup W.K (wE F iter), fun n => by have := pi_tup (tg := tg) (pe_w (F := F) (e := iter) n); rw [hF.K n] at this; exact this, h H0 G H σ E _ fun v G1 H1 n1 p => ?_⟩
    obtain ⟨l, xs, rfl, hl, hd⟩ := dt_sq p
    refine ⟨l, rfl, ⟨xs, .inl (.inl (n1.gh _ _ hl))⟩, q _ _ _ _ G1 H1 n1 ⟨walk_tup (K := W.K) (xs := xs), (dta_len hd).symm, fun H' e => .inl (.inl (e _ _ hl)), fun j G' H' x H'' hj e1 e2 y => ?_⟩⟩
    obtain ⟨rfl, hx⟩ := y
    obtain ⟨dd, h1, h2⟩ := dta_back hd hx
    exact ⟨G', dd, h1, Nx.refl e2, dt_mono e1 h2⟩
theorem i_row {tg iter : Expr} {ns : List Int} (hF : Fam W k N F) (h : XD F iter Γ (.row ns)) : XI F tg iter Γ (ns.map .int) := fun H0 G H σ E R q => by
  refine ⟨iTup W.K (wE F iter), fun n => by have := pi_tup (tg := tg) (pe_w (F := F) (e := iter) n); rw [hF.K n] at this; exact this, h H0 G H σ E _ fun v G1 H1 n1 p => ?_⟩
  obtain ⟨l, ob, rfl, hl, _⟩ := dt_row p
  refine ⟨l, rfl, ⟨_, .inl (.inr ⟨ob, n1.gh _ _ hl⟩)⟩, q _ _ _ _ G1 H1 n1 ⟨walk_tup (K := W.K) (xs := ns.map V.int), by simp, fun H' e => .inl (.inr ⟨ob, e _ _ hl⟩), fun j G' H' x H'' hj e1 e2 y => ?_⟩⟩
  obtain ⟨rfl, hx⟩ := y
  obtain ⟨dd, h1, h2⟩ := dta_back (dta_of_ints (G := G') ns) hx
  exact ⟨G', dd, h1, Nx.refl e2, h2⟩
abbrev rngD (lo : Int) (n : Nat) : List Dat := (List.range n).map fun i => .int (lo + (i : Nat))
theorem rng_ok {lo : Int} {n : Nat} {G1 : Hp} : XIok (Itr lo n) n (fun _ => True) (YFn fun i => .int (lo + i)) G1 (rngD lo n) :=
  ⟨walk_range, by simp, fun _ _ => trivial, fun j G H x H' hj e1 e2 y => by
    obtain ⟨rfl, rfl⟩ := y
    exact ⟨G, .int (lo + j), by simp [hj], Nx.refl e2, .int _⟩⟩
theorem i_rng1 {tg : Expr} {n : Int} {p : Pos} (hm : W.mg "range" = none) (hF : Fam W k N F) (h : XD F a Γ (.int n)) (hn : n < 2 ^ 62) (h0 : -(2 ^ 62) ≤ n) (hg : ∀ j, Gl (F j) "range" := by intro _; rfl) (hs : ∀ j, starEach [a] (F j).env = [(false, eval a (F j).env)] := by intro _; rfl) :
    XI F tg (.Call (.Name "range" p) [a] [] pos) Γ (rngD 0 n.toNat) := fun H0 G H σ E R q =>
  ⟨_, fun j => pi_range1 (hg j) (by rw [hF.mg j]; exact hm) (pa_w j) (hs j), xa_cons h xa_nil hs H0 G H σ E _ fun vs G1 H1 n1 p => by
    cases p with
    | cons p1 p2 =>
      cases p1
      cases p2
      exact ⟨n, rfl, h0, hn, q _ _ _ _ G1 H1 n1 rng_ok⟩⟩
theorem i_rng2 {tg : Expr} {m n : Int} {p : Pos} (hm : W.mg "range" = none) (hF : Fam W k N F) (ha : XD F a Γ (.int m)) (hb : XD F b Γ (.int n)) (h1 : -(2 ^ 62) ≤ m) (h2 : m < 2 ^ 62) (h3 : -(2 ^ 62) ≤ n) (h4 : n < 2 ^ 62) (hg : ∀ j, Gl (F j) "range" := by intro _; rfl)
    (hs : ∀ j, starEach [a, b] (F j).env = [(false, eval a (F j).env), (false, eval b (F j).env)] := by intro _; rfl) (hs2 : ∀ j, starEach [b] (F j).env = [(false, eval b (F j).env)] := by intro _; rfl) :
    XI F tg (.Call (.Name "range" p) [a, b] [] pos) Γ (rngD m (n - m).toNat) := fun H0 G H σ E R q =>
  ⟨_, fun j => pi_range2 (hg j) (by rw [hF.mg j]; exact hm) (pa_w j) (hs j) (hs2 j), xa_cons ha (xa_cons hb xa_nil hs2) (fun j => by rw [hs j, hs2 j]) H0 G H σ E _ fun vs G1 H1 n1 p => by
    cases p with
    | cons p1 p2 =>
      cases p2 with
      | cons p2 p3 =>
        cases p1
        cases p2
        cases p3
        exact ⟨m, n, rfl, ⟨h1, h2, h3, h4⟩, q _ _ _ _ G1 H1 n1 rng_ok⟩⟩
/-- the items with their places -/
def enumD (ds : List Dat) : List Dat := ds.mapIdx fun i d => .sq true [.int (i : Nat), d]
theorem i_enumL {elts : List Expr} {kk : Nat} {p tp : Pos} {ds : List Dat} (hm : W.mg "enumerate" = none) (hF : Fam W k N F) (h : XD F a Γ (.sq false ds)) (hg : ∀ j, Gl (F j) "enumerate" := by intro _; rfl) (hs : ∀ j, starEach [a] (F j).env = [(false, eval a (F j).env)] := by intro _; rfl) :
    XI F (.Tuple elts kk tp) (.Call (.Name "enumerate" p) [a] [] pos) Γ (enumD ds) := fun H0 G H σ E R q =>
  ⟨iEnum W.K (wA F [a]), fun j => by have := pi_enum (tpos := tp) (kk := kk) (elts := elts) (p := p) (pos := pos) (hg j) (by rw [hF.mg j]; exact hm) (pa_w (F := F) (es := [a]) j) (hs j); rw [hF.K j] at this; exact this, xa_cons h xa_nil hs H0 G H σ E _ fun vs G1 H1 n1 p => by
    cases p with
    | cons p1 p2 =>
      cases p2
      obtain ⟨l, xs, rfl, hl, hd⟩ := dt_sq p1
      refine ⟨l, xs, rfl, .inl (ex_rd n1.gh hl), q _ _ _ _ G1 H1 n1 ⟨walk_enum, ?_, fun H' e => .inl (ex_rd e hl), fun j G' H' x H'' hj e1 e2 y => ?_⟩⟩
      · rw [enumD, List.length_mapIdx, dta_len hd]
      · obtain ⟨T, u, v, rfl, hT, rfl, hu, hv⟩ := y
        obtain ⟨dd, h1, h2⟩ := dta_back hd hv
        cases hu
        refine ⟨upd G' T (.tup [.int (j : Nat), v]), .sq true [.int (j : Nat), dd], ?_, Nx.new e2 hT, ?_⟩
        · rw [enumD, List.getElem?_mapIdx, h1]
          rfl
        · exact .sq upd_same (.cons (.int _) (.cons (dt_mono (e1.trans (Ex.new (fresh_back e2 hT))) h2) .nil))⟩
/-- the keys of a dict in sight -/
theorem i_dic {tg iter : Expr} {kvs : List (List Int × Dat)} (hF : Fam W k N F) (h : XD F iter Γ (.dic kvs)) : XI F tg iter Γ (kvs.map fun p => tI p.1) := fun H0 G H σ E R q =>
  ⟨_, fun n => pi_keys (tg := tg) (pe_w (F := F) (e := iter) n), h H0 G H σ E _ fun v G1 H1 n1 p => by
    obtain ⟨l, ob, ps, rfl, hl, hd⟩ := dt_dic p
    refine ⟨l, ob, rfl, .inr ⟨ps, n1.gh _ _ hl, q _ _ _ _ G1 H1 n1 ⟨walk_keysT (kvs := ps), ?_, fun H' e => e _ _ hl, fun j G' H' x H'' hj e1 e2 y => ?_⟩⟩⟩
    · rw [List.length_map, dkv_len hd]
    · obtain ⟨rfl, kk, vv, qa, hk, rfl, hq⟩ := y
      have hks := dkv_keys hd
      have e3 : (ps.map (·.1))[j]? = some kk := by rw [List.getElem?_map, hk]; rfl
      rw [hks, List.getElem?_map, List.getElem?_map] at e3
      cases hj2 : kvs[j]? with
      | none =>
        rw [hj2] at e3
        cases e3
      | some p =>
        rw [hj2] at e3
        cases e3
        refine ⟨upd G' qa (.tup (p.1.map V.int)), tI p.1, by rw [List.getElem?_map, hj2]; rfl, Nx.tup e2 (by rw [hq, kI_vals]), .sq upd_same (dta_of_ints _)⟩⟩

/-! ### for -/
/-- the same, some slots forgotten -/
inductive Wk : List Sl → List Sl → Prop
  | nil : Wk [] []
  | same {s : Sl} {Γ Γ' : List Sl} : Wk Γ Γ' → Wk (s :: Γ) (s :: Γ')
  | drop {s : Sl} {Γ Γ' : List Sl} : Wk Γ Γ' → Wk (s :: Γ) (.no :: Γ')
theorem Wk.refl : ∀ Γ : List Sl, Wk Γ Γ
  | [] => .nil
  | _ :: Γ => .same (Wk.refl Γ)
theorem Wk.get {Γ Γ' : List Sl} (w : Wk Γ Γ') : Γ'.length = Γ.length ∧ ∀ (i : Nat) (s : Sl), Γ'[i]? = some s → s = .no ∨ Γ[i]? = some s := by
  induction w with
  | nil => exact ⟨rfl, fun i s h => by simp at h⟩
  | same _ ih =>
    refine ⟨congrArg (· + 1) ih.1, fun i s h => ?_⟩
    cases i with
    | zero => exact .inr h
    | succ i => exact ih.2 i s (by simpa using h)
  | drop _ ih =>
    refine ⟨congrArg (· + 1) ih.1, fun i s h => ?_⟩
    cases i with
    | zero =>
      have : Sl.no = s := by simpa using h
      exact .inl this.symm
    | succ i => exact ih.2 i s (by simpa using h)
theorem Env.wk {H0 G H : Hp} {σ : L2.St} (E : Env H0 G H σ Γ) (w : Wk Γ Γ1) : Env H0 G H σ Γ1 := by
  obtain ⟨h1, h2⟩ := w.get
  refine ⟨E.h0, E.gh, E.len.trans h1.symm, fun i s h => (h2 i s h).elim .inl fun h => E.sl i s h, fun i j s t a hi hj o1 o2 h3 h4 => ?_⟩
  refine E.ap i j s t a ((h2 i s hi).resolve_left ?_) ((h2 j t hj).resolve_left ?_) o1 o2 h3 h4
  · intro z; subst z; cases o1
  · intro z; subst z; cases o2
theorem ss_wk (w : Wk Γ Γ1) (h : XSs F sts Γ1 o) : XSs F sts Γ o := fun G0 H0 G H σ n E D q => h G0 H0 G H σ n (E.wk w) D q
/-- Γs j: what the slots hold ahead of turn j -/
theorem s_for {tg iter : Expr} {body : List Stmt} {is : List Nat} {ds : List Dat} (Γs : Nat → List Sl) (hF : Fam W k N F) (hi : XI F tg iter Γ ds) (h0 : Wk Γ (Γs 0))
    (hb : ∀ j d, ds[j]? = some d → ∃ Γ1 o, XG F tg is (Γs j) d Γ1 ∧ XSs F body Γ1 o ∧ ∃ Γ2, (o = .nx Γ2 ∨ o = .ct Γ2) ∧ Wk Γ2 (Γs (j + 1))) (hs : ∀ n x, foldedSetIterable iter (F n).env x = pure x := by intro _ _; rfl) :
    XS F (.For tg iter body [] pos) Γ (.nx (Γs ds.length)) := fun G0 H0 G H σ n E D q =>
  ⟨_, fun j => ps_for (hF.own j) (hF.calm j) (pi_w j) (pg_w j) (pss_w j) (hs j), hi H0 G H σ E _ fun J m Gp Y G1 H1 n1 x => by
    refine for_it x.walk (fun j σ Hc => ∃ Gc, Nx G0 H0 Gc Hc ∧ Ex G1 Gc ∧ Env H0 Gc Hc σ (Γs j)) ⟨G1, n.trans n1, Ex.refl _, (E.mono n1).wk h0⟩ (fun j σ Hc _ ⟨Gc, a1, a2, a3⟩ => x.st Hc (a2.trans a1.gh)) (fun j v σ Hc H' hj ⟨Gc, a1, a2, a3⟩ y => ?_)
      fun σ Hc ⟨Gc, a1, a2, a3⟩ => q σ Gc Hc a1 (n1.gg.trans a2) (by rw [x.len]; exact a3)
    obtain ⟨Gd, dd, hd, n2, hv⟩ := x.yl j Gc Hc v H' hj a2 a3.gh y
    obtain ⟨Γ1, o, hg, hbd, Γ2, ho, hw⟩ := hb j dd hd
    refine hg H0 Gd H' σ v (a3.mono n2) hv _ fun σ2 _ _ E2 => hbd G0 H0 Gd H' σ2 (a1.trans n2) E2 _ ?_
    rcases ho with rfl | rfl
    · exact fun σ3 G3 H3 n3 e3 E3 => ⟨G3, n3, (a2.trans n2.gg).trans e3, E3.wk hw⟩
    · exact fun σ3 G3 H3 n3 e3 E3 => ⟨G3, n3, (a2.trans n2.gg).trans e3, E3.wk hw⟩⟩

/-! ### comprehensions -/
theorem wipe_get {σ : L2.St} {j : Nat} : ∀ {vs : List Nat}, j ∈ vs → j < σ.length → (wipe σ vs)[j]? = some none
  | [], h, _ => by cases h
  | v :: vs, h, hl => by
    unfold wipe
    by_cases c : v = j
    · subst c
      rw [List.getElem?_set_self (by rw [wipe_length]; exact hl)]
    · rw [List.getElem?_set_ne c]
      exact wipe_get ((List.mem_cons.mp h).resolve_left fun z => c z.symm) hl
theorem wipe_same {σ τ : L2.St} {vs : List Nat} (hl : τ.length = (wipe σ vs).length) (h : ∀ j, j ∉ vs → τ[j]? = (wipe σ vs)[j]?) : wipe τ vs = wipe σ vs := by
  apply List.ext_getElem?
  intro j
  by_cases c : j ∈ vs
  · by_cases hj : j < σ.length
    · rw [wipe_get c hj, wipe_get c (by rw [hl, wipe_length]; exact hj)]
    · rw [List.getElem?_eq_none (by rw [wipe_length, hl, wipe_length]; omega), List.getElem?_eq_none (by rw [wipe_length]; omega)]
  · rw [wipe_out c, h j c]
def noS (Γ : List Sl) : List Nat → List Sl
  | [] => Γ
  | v :: vs => (noS Γ vs).set v .no
theorem Env.wiped {H0 G H : Hp} {σ : L2.St} (E : Env H0 G H σ Γ) : ∀ vs : List Nat, Env H0 G H (wipe σ vs) (noS Γ vs)
  | [] => E
  | v :: vs => by
    have E1 := E.wiped vs
    have E2 := E1.drop (i := v)
    unfold wipe noS
    refine ⟨E2.h0, E2.gh, by rw [List.length_set, List.length_set, E1.len], fun j s h => ?_, fun i j s t a h1 h2 o1 o2 h3 h4 => ?_⟩
    · by_cases c : v = j
      · subst c
        by_cases hl : v < (noS Γ vs).length
        · rw [List.getElem?_set_self hl] at h
          cases h
          exact .inl rfl
        · rw [List.getElem?_eq_none (by rw [List.length_set]; omega)] at h
          cases h
      · rw [List.getElem?_set_ne c] at h
        rw [List.getElem?_set_ne c]
        exact E1.sl j s h
    · have key : ∀ {j : Nat} {a : Addr}, ((wipe σ vs).set v none)[j]? = some (some (.ref a)) → (wipe σ vs)[j]? = some (some (.ref a)) := fun {j a} z => by
        by_cases c : v = j
        · subst c
          by_cases hl : v < (wipe σ vs).length
          · rw [List.getElem?_set_self hl] at z
            cases z
          · rw [List.getElem?_eq_none (by rw [List.length_set]; omega)] at z
            cases z
        · rw [List.getElem?_set_ne c] at z
          exact z
      exact E2.ap i j s t a h1 h2 o1 o2 (key h3) (key h4)
/-- the contexts of the block -/
abbrev blkF (F : ι → Cx) (scope : Scope) : ι × Shared × Hp × Addr × List (Str × Addr) × List Addr → Cx := fun x => (F x.1).blk x.2.1 x.2.2.1 scope (compEnvC scope x.2.2.2.2.1 x.2.2.2.1 (F x.1).env) x.2.2.2.2.2
theorem fam_blk {scope : Scope} (hF : Fam W k N F) : Fam W k N (blkF F scope) :=
  ⟨fun x => hF.prog x.1, fun x => hF.w x.1, fun x => hF.K x.1, fun x => hF.mg x.1, fun x => hF.base x.1, fun x => hF.names x.1, fun x => hF.calm x.1, fun x => hF.room x.1, hF.nd, fun _ => PassesOwn.never⟩
def wTs (F : ι → Cx) (ifs : List Expr) : TT := fun σ H Q => ∃ t, (∀ i, PTs (F i) ifs t) ∧ t σ H Q
theorem pts_w {ifs : List Expr} (n : ι) : PTs (F n) ifs (wTs F ifs) := ⟨fun pins s σ H Q I ⟨_, h, q⟩ => (h n).run pins s σ H Q I q⟩
def XTs (F : ι → Cx) (ifs : List Expr) (Γ : List Sl) (b : Bool) : Prop := ∀ H0 G H σ, Env H0 G H σ Γ → ∀ Q : Bool → Hp → Prop, (∀ G' H', Nx G H G' H' → Q b H') → wTs F ifs σ H Q
theorem t_nil : XTs F [] Γ true := fun H0 G H σ E Q q => ⟨_, fun _ => pts_nil, q G H (Nx.refl E.gh)⟩
theorem t_one {x : Bool} (h : XB F c Γ x) : XTs F [c] Γ x := fun H0 G H σ E Q q => ⟨_, fun n => pts_one (pt_w n), h H0 G H σ E Q q⟩
/-- the body of one turn -/
def XTurn (F : ι → Cx) (tg elt : Expr) (ifs : List Expr) (is : List Nat) (Γ : List Sl) (d : Dat) (r : Option Dat) : Prop := ∃ Γ1 b, XG F tg is Γ d Γ1 ∧ XTs F ifs Γ1 b ∧ ((b = false ∧ r = none) ∨ (b = true ∧ ∃ d', r = some d' ∧ XD F elt Γ1 d'))
theorem lc_sem {ι' : Type} {F' : ι' → Cx} {tg iter elt : Expr} {ifs : List Expr} {is vs : List Nat} {ds : List Dat} (f : Nat → Option Dat) (hi : XI F tg iter Γ ds) (hl : ds.length ≤ 100000) (hb : ∀ j d, ds[j]? = some d → XTurn F' tg elt ifs is (noS Γ vs) d (f j)) (hv : ∀ j, j ∈ is → j ∈ vs) :
    ∀ H0 G H σ, Env H0 G H σ Γ → ∀ Q : VK, (∀ v G' H', Nx G H G' H' → RsOk H v G' H' (.mL ((List.range ds.length).filterMap f)) → Q v H') → tLc (wI F tg iter) (wG F' tg) (wTs F' ifs) (wE F' elt) vs σ H Q := fun H0 G H σ E Q q =>
  hi H0 G H σ E _ fun J m Gp Y G1 H1 n1 x D hD => by
    have g1 : G1 D = none := fresh_back n1.gh hD
    refine lc_it x.walk (fun j Hc => ∃ Gc acc, Nx G1 H1 Gc Hc ∧ Gc D = none ∧ Hc D = some (.lst acc) ∧ DtAll Gc acc ((List.range j).filterMap f)) ⟨G1, [], Nx.newH n1.gh hD, g1, upd_same, .nil⟩ (fun j Hc _ ⟨Gc, acc, a1, _⟩ => x.st Hc (a1.gg.trans a1.gh)) (fun j v Hc H' hj ⟨Gc, acc, a1, a2, a3, a4⟩ y => ?_) fun Hc ⟨Gc, acc, a1, a2, a3, a4⟩ =>
        q _ Gc Hc (n1.trans a1) ⟨D, acc, rfl, fresh_back n1.hh hD, a2, a3, by rw [x.len]; exact a4⟩
    obtain ⟨Gd, dd, hd, n2, hv1⟩ := x.yl j Gc Hc v H' hj a1.gg a1.gh y
    obtain ⟨Γ1, b, hg, ht, he⟩ := hb j dd hd
    have Ew : Env H0 Gd H' (wipe σ vs) (noS Γ vs) := ((E.mono n1).mono (a1.trans n2)).wiped vs
    refine hg H0 Gd H' (wipe σ vs) v Ew hv1 _ fun σ2 l2 k2 E2 => ⟨wipe_same l2 fun j hj => k2 j fun z => hj (hv j z), ht H0 Gd H' σ2 E2 _ fun G3 H3 n3 => ?_⟩
    have hD3 : H3 D = some (.lst acc) := n3.hh _ _ (n2.hh _ _ a3)
    have gD3 : G3 D = none := n3.hidL (n2.hh _ _ a3) (n2.hidL a3 a2)
    have er : (List.range (j + 1)).filterMap f = (List.range j).filterMap f ++ (f j).toList := by
      rw [List.range_succ, List.filterMap_append]
      cases hf : f j <;> simp [hf]
    rcases he with ⟨rfl, hr⟩ | ⟨rfl, d', hr, he⟩
    · rw [if_neg Bool.false_ne_true]
      refine ⟨G3, acc, (a1.trans n2).trans n3, gD3, hD3, ?_⟩
      rw [er, hr, Option.toList_none, List.append_nil]
      exact dta_mono (n2.trans n3).gg a4
    · rw [if_pos rfl]
      refine he H0 G3 H3 σ2 (E2.mono n3) _ fun w G4 H4 n4 p4 => ?_
      have hD4 : H4 D = some (.lst acc) := n4.hh _ _ hD3
      have gD4 : G4 D = none := n4.hidL hD3 gD3
      have ll : acc.length ≤ j := by
        rw [dta_len a4]
        exact Nat.le_trans (List.length_filterMap_le _ _) (Nat.le_of_eq List.length_range)
      refine ⟨acc, hD4, sz_lt (by have := x.len; omega), G4, acc ++ [w], (((a1.trans n2).trans n3).trans n4).mut hD gD4, gD4, upd_same, ?_⟩
      rw [er, hr, Option.toList_some]
      exact dta_append (dta_mono ((n2.trans n3).trans n4).gg a4) (.cons p4 .nil)
/-- [elt for tg in iter if ..] -/
theorem o_lc {tg iter elt : Expr} {ifs : List Expr} {is : List Nat} {ds : List Dat} {scope : Scope} {lp : Pos} (own : List (Str × Nat)) (sc : Scope) (f : Nat → Option Dat) (hF : Fam W k N F) (hi : XI F tg iter Γ ds) (hl : ds.length ≤ 100000)
    (hb : Fam W k N (blkF F scope) → ∀ j d, ds[j]? = some d → XTurn (blkF F scope) tg elt ifs is (noS Γ (own.map (·.2))) d (f j)) (ok : blkC N sc scope own = true := by decide +kernel) (hsc : ∀ n, (F n).env.scope = sc := by intro _; rfl) (hv : ∀ j, j ∈ is → j ∈ own.map (·.2) := by decide)
    (hs : ∀ n x, foldedSetIterable iter (F n).env x = pure x := by intro _ _; rfl) : XE F (.ListComp elt [⟨tg, iter, ifs, 0⟩] scope lp) Γ (.mL ((List.range ds.length).filterMap f)) := fun H0 G H σ E Q q =>
  ⟨_, fun n => pe_lc (own := own) (hF.calm n) (by rw [hF.names n]; exact hF.nd) (pi_w n) (by rw [hF.names n, hsc n]; exact blkOk_by ok) (fun s H C cl fp => pg_w (F := blkF F scope) (n, s, H, C, cl, fp)) (fun s H C cl fp => pts_w (F := blkF F scope) (n, s, H, C, cl, fp)) (fun s H C cl fp => pe_w (F := blkF F scope) (n, s, H, C, cl, fp)) (hs n),
    lc_sem f hi hl (hb (fam_blk hF)) hv H0 G H σ E Q q⟩
/-- x = [elt for ..] -/
theorem s_setLc {tg iter elt : Expr} {ifs : List Expr} {is : List Nat} {ds : List Dat} {scope : Scope} {lp p : Pos} {x : Str} (i : Nat) (own : List (Str × Nat)) (sc : Scope) (f : Nat → Option Dat) (hF : Fam W k N F) (hi : XI F tg iter Γ ds) (hl : ds.length ≤ 100000)
    (hb : Fam W k N (blkF F scope) → ∀ j d, ds[j]? = some d → XTurn (blkF F scope) tg elt ifs is (noS Γ (own.map (·.2))) d (f j)) (hN : N[i]? = some x := by rfl) (ok : blkC N sc scope own = true := by decide +kernel) (hsc : ∀ n, (F n).env.scope = sc := by intro _; rfl) (hv : ∀ j, j ∈ is → j ∈ own.map (·.2) := by decide)
    (hyl : sc.names.lookup x = some .local := by rfl) (hsw : ∀ n, swapsWith (.ListComp elt [⟨tg, iter, ifs, 0⟩] scope lp) (some (.Name x p)) pos.line (F n).env = pure true := by exact fun _ => sw_true rfl rfl rfl (by decide +kernel))
    (hs : ∀ n x, foldedSetIterable iter (F n).env x = pure x := by intro _ _; rfl) : XS F (.Assign [.Name x p] (.ListComp elt [⟨tg, iter, ifs, 0⟩] scope lp) pos) Γ (.nx (Γ.set i (.mL ((List.range ds.length).filterMap f)))) := fun G0 H0 G H σ n E D q =>
  ⟨_, fun j => ps_setLc (i := i) (own := own) (hF.calm j) (by rw [hF.names j]; exact hF.nd) (by rw [hF.names j]; exact hN) (by rw [hsc j]; exact hyl) (hsw j) (pi_w j) (by rw [hF.names j, hsc j]; exact blkOk_by ok) (fun s H C cl fp => pg_w (F := blkF F scope) (j, s, H, C, cl, fp)) (fun s H C cl fp => pts_w (F := blkF F scope) (j, s, H, C, cl, fp)) (fun s H C cl fp => pe_w (F := blkF F scope) (j, s, H, C, cl, fp)) (hs j),
    lc_sem f hi hl (hb (fam_blk hF)) hv H0 G H σ E _ fun v G1 H1 n1 p => q _ G1 H1 (n.trans n1) n1.gg ((E.mono n1).put E.h0 p fun a ha j t ht ot => E.notOwn ha ht ot)⟩
/-- the list that x holds comes into sight -/
theorem Env.pub {G0 H0 G H : Hp} {σ : L2.St} {ds : List Dat} (i : Nat) (n : Nx G0 H0 G H) (E : Env H0 G H σ Γ) (hs : Γ[i]? = some (.mL ds)) : ∃ G', Nx G0 H0 G' H ∧ Ex G G' ∧ Env H0 G' H σ (Γ.set i (.dat (.sq false ds))) := by
  obtain ⟨v, hv, l, xs, rfl, h0, g, hh, dd⟩ := E.get hs (by intro z; cases z)
  have n1 : Nx G0 H0 (upd G l (.lst xs)) H := n.show h0 g hh
  have e1 : Ex G (upd G l (.lst xs)) := Ex.new g
  have hi : i < Γ.length := by
    rcases Nat.lt_or_ge i Γ.length with z | z
    · exact z
    · rw [List.getElem?_eq_none z] at hs; cases hs
  refine ⟨_, n1, e1, ⟨E.h0, n1.gh, by rw [List.length_set, E.len], fun j s hj => ?_, fun j m s t a h1 h2 o1 o2 h3 h4 => ?_⟩⟩
  · by_cases c : i = j
    · subst c
      rw [List.getElem?_set_self hi] at hj
      cases hj
      exact .inr ⟨_, hv, .sq (t := false) (.inl upd_same) (dta_mono e1 dd)⟩
    · rw [List.getElem?_set_ne c] at hj
      rcases E.sl j s hj with z | ⟨u, hu, r⟩
      · exact .inl z
      · refine .inr ⟨u, hu, ?_⟩
        have keep : ∀ {b : Addr}, s.own = true → u = .ref b → b ≠ l := fun {b} os eb z => by
          subst eb z
          exact c (E.ap i j _ s b hs hj rfl os hv hu)
        cases s with
        | no => trivial
        | dat d => exact dt_mono e1 r
        | mL es =>
          obtain ⟨b, ys, eb, b0, bg, bh, bd⟩ := r
          exact ⟨b, ys, eb, b0, by rw [upd_ne (keep rfl eb)]; exact bg, bh, dta_mono e1 bd⟩
        | mD es =>
          obtain ⟨b, ys, eb, b0, bg, bh, bd⟩ := r
          exact ⟨b, ys, eb, b0, by rw [upd_ne (keep rfl eb)]; exact bg, bh, dkv_mono e1 bd⟩
        | mO b C fs =>
          obtain ⟨dx, ys, eb, b0, bg, bh, bd⟩ := r
          exact ⟨dx, ys, eb, b0, by rw [upd_ne (keep rfl eb)]; exact bg, bh, dtf_mono e1 bd⟩
  · have key : ∀ {j : Nat} {s : Sl}, (Γ.set i (.dat (.sq false ds)))[j]? = some s → s.own = true → Γ[j]? = some s := fun {j s} hj os => by
      by_cases c : i = j
      · subst c
        rw [List.getElem?_set_self hi] at hj
        cases hj
        cases os
      · rw [List.getElem?_set_ne c] at hj
        exact hj
    exact E.ap j m s t a (key h1 o1) (key h2 o2) o1 o2 h3 h4
theorem ss_pub {ds : List Dat} (i : Nat) (hs : Γ[i]? = some (.mL ds)) (h : XSs F sts (Γ.set i (.dat (.sq false ds))) o) : XSs F sts Γ o := fun G0 H0 G H σ n E D q => by
  obtain ⟨G', n1, e1, E1⟩ := E.pub i n hs
  exact h G0 H0 G' H σ n1 E1 D (q.ex e1)
theorem XS.pubA {ds : List Dat} (i : Nat) (h : XS F st Γ (.nx Γ1)) (hs : Γ1[i]? = some (.mL ds) := by rfl) : XS F st Γ (.nx (Γ1.set i (.dat (.sq false ds)))) := fun G0 H0 G H σ n E D q =>
  h G0 H0 G H σ n E D fun σ' G' H' n' e' E' => by
    obtain ⟨G2, n2, e2, E2⟩ := E'.pub i n' hs
    exact q σ' G2 H' n2 (e'.trans e2) E2
end
end FX
/-! part FE -/
set_option Elab.async false
set_option linter.all false
set_option maxRecDepth 100000
set_option maxHeartbeats 2000000
/-! Built-in calls, sequences, dicts, methods, own defs, over data. -/
namespace FX
open PySem PySem.Spec PyProof.Rows L2 Evl
section
variable {ι : Type} {W : Wd} {k : Nat} {N : List Str} {F : ι → Cx} {Γ Γ1 Γ2 : List Sl} {a b c e : Expr} {es : List Expr} {st : Stmt} {sts : List Stmt} {d da db dc : Dat} {s : Sl} {o : Out} {pos : Pos} {P P1 P2 : Pr}

/-! ### a built-in of one argument -/
/-- what a call on values makes -/
def R1 (r : List V → Hp → VK → Prop) (P1 P : Pr) : Prop := ∀ H0 v G H, Ex G H → P1 H0 v G H → ∀ Q : VK, (∀ w G' H', Nx G H G' H' → (∀ Ha, Ex Ha H → P Ha w G' H') → Q w H') → r [v] H Q
theorem x_c1 {x : Str} {id : String} {r : List V → Hp → VK → Prop} {p : Pos} (hF : Fam W k N F) (hc : ∀ n, CallR (F n) (.builtin id) r) (hm : W.mg x = none) (hv : bootBuiltins x = some (.builtin id)) (ha : XP F a Γ P1) (hr : R1 r P1 P) (hg : ∀ n, Gl (F n) x := by intro _; rfl) (hn : x ≠ "__name__" := by decide)
    (hdb : (x == ("__debug__" : Str)) = false := by decide) (he : ∀ n, starEach [a] (F n).env = (false, eval a (F n).env) :: starEach [] (F n).env := by intro _; rfl) (hpl : ∀ n, (backTo pos (starEach [] (F n).env)).any (·.1) = false := by intro _; rfl) :
    XP F (.Call (.Name x p) [a] [] pos) Γ P := fun H0 G H σ E Q q =>
  ⟨_, fun n => pe_callB (hc n) (hg n) (by rw [hF.mg n]; exact hm) hv (pa_cons (pe_w n) pa_nil (he n)) hn hdb (he n) (hpl n), ha H0 G H σ E _ fun v G1 H1 n1 p1 => hr H v G1 H1 n1.gh p1 Q fun w G2 H2 n2 p2 => q w G2 H2 (n1.trans n2) (p2 H n1.hh)⟩
theorem x_t1 {x : Str} {T : String} {r : List V → Hp → VK → Prop} {p : Pos} (hF : Fam W k N F) (hc : ∀ n, CallR (F n) (.type T) r) (hm : W.mg x = none) (hv : bootBuiltins x = some (.type T)) (ha : XP F a Γ P1) (hr : R1 r P1 P) (hg : ∀ n, Gl (F n) x := by intro _; rfl) (hn : x ≠ "__name__" := by decide)
    (hdb : (x == ("__debug__" : Str)) = false := by decide) (he : ∀ n, starEach [a] (F n).env = (false, eval a (F n).env) :: starEach [] (F n).env := by intro _; rfl) (hpl : ∀ n, (backTo pos (starEach [] (F n).env)).any (·.1) = false := by intro _; rfl) :
    XP F (.Call (.Name x p) [a] [] pos) Γ P := fun H0 G H σ E Q q =>
  ⟨_, fun n => pe_callTy (hc n) (hg n) (by rw [hF.mg n]; exact hm) hv (pa_cons (pe_w n) pa_nil (he n)) hn hdb (he n) (hpl n), ha H0 G H σ E _ fun v G1 H1 n1 p1 => hr H v G1 H1 n1.gh p1 Q fun w G2 H2 n2 p2 => q w G2 H2 (n1.trans n2) (p2 H n1.hh)⟩
theorem r1_val {r : List V → Hp → VK → Prop} (h : ∀ H0 v G H, Ex G H → P1 H0 v G H → ∃ w, Dt G w d ∧ ∀ Q : VK, Q w H → r [v] H Q) : R1 r P1 (RS (.dat d)) := fun H0 v G H e p Q q => by
  obtain ⟨w, hw, hr⟩ := h H0 v G H e p
  exact hr Q (q w G H (Nx.refl e) fun _ _ => hw)
/-- a new list of xs -/
theorem r1_newL {Q : VK} {G H : Hp} {xs : List V} {ds : List Dat} (e : Ex G H) (hd : DtAll G xs ds) (q : ∀ w G' H', Nx G H G' H' → (∀ Ha, Ex Ha H → RS (.mL ds) Ha w G' H') → Q w H') : ∀ p, H p = none → Q (.ref p) (upd H p (.lst xs)) := fun p hp =>
  q _ G _ (Nx.newH e hp) fun Ha ea => ⟨p, xs, rfl, fresh_back ea hp, fresh_back e hp, upd_same, hd⟩
theorem r1_newT {Q : VK} {G H : Hp} {xs : List V} {ds : List Dat} (e : Ex G H) (hd : DtAll G xs ds) (q : ∀ w G' H', Nx G H G' H' → (∀ Ha, Ex Ha H → RS (.dat (.sq true ds)) Ha w G' H') → Q w H') : ∀ p, H p = none → Q (.ref p) (upd H p (.tup xs)) := fun p hp =>
  q _ _ _ (Nx.new e hp) fun Ha ea => dt_new (t := true) e hp hd
variable {t : Bool} {ds : List Dat} {p : Pos}
theorem x_len (hm : W.mg "len" = none) (hF : Fam W k N F) (h : XQ W F a Γ t ds) (hg : ∀ n, Gl (F n) "len" := by intro _; rfl) (he : ∀ n, starEach [a] (F n).env = (false, eval a (F n).env) :: starEach [] (F n).env := by intro _; rfl) : XD F (.Call (.Name "len" p) [a] [] pos) Γ (.int (ds.length : Nat)) :=
  x_c1 hF (fun n => by have := call_len_seq (X := F n); rw [hF.K n] at this; exact this) hm PySem.boot_len h (r1_val (P1 := QOk W.K t ds) (by intro H0 v G H e pd; obtain ⟨l, xs, ev, hq, hd⟩ := pd; exact ⟨.int (xs.length : Nat), by rw [dta_len hd]; exact .int _, fun Q q => ⟨l, xs, by rw [ev], sqb_or hq, q⟩⟩)) hg (he := he)
theorem o_list (hm : W.mg "list" = none) (hF : Fam W k N F) (h : XQ W F a Γ t ds) (hg : ∀ n, Gl (F n) "list" := by intro _; rfl) (he : ∀ n, starEach [a] (F n).env = (false, eval a (F n).env) :: starEach [] (F n).env := by intro _; rfl) : XE F (.Call (.Name "list" p) [a] [] pos) Γ (.mL ds) :=
  x_t1 hF (fun n => by have := call_list_of (X := F n); rw [hF.K n] at this; exact this) hm (by decide +kernel) h (P1 := QOk W.K t ds) (by intro H0 v G H e pd Q q; obtain ⟨l, xs, ev, hq, hd⟩ := pd; exact ⟨l, xs, by rw [ev], sqb_or hq, r1_newL e hd q⟩) hg (he := he)
theorem x_tupL (hm : W.mg "tuple" = none) (hF : Fam W k N F) (h : XQ W F a Γ false ds) (hg : ∀ n, Gl (F n) "tuple" := by intro _; rfl) (he : ∀ n, starEach [a] (F n).env = (false, eval a (F n).env) :: starEach [] (F n).env := by intro _; rfl) : XD F (.Call (.Name "tuple" p) [a] [] pos) Γ (.sq true ds) :=
  x_t1 hF (fun n => by have := call_tuple_of (X := F n); rw [hF.K n] at this; exact this) hm (by decide +kernel) h (P1 := QOk W.K false ds) (by intro H0 v G H e pd Q q; obtain ⟨l, xs, ev, hq, hd⟩ := pd; exact ⟨l, xs, by rw [ev], .inl ⟨hq, r1_newT e hd q⟩⟩) hg (he := he)
theorem x_tupT (hm : W.mg "tuple" = none) (hF : Fam W k N F) (h : XD F a Γ (.sq true ds)) (hg : ∀ n, Gl (F n) "tuple" := by intro _; rfl) (he : ∀ n, starEach [a] (F n).env = (false, eval a (F n).env) :: starEach [] (F n).env := by intro _; rfl) : XD F (.Call (.Name "tuple" p) [a] [] pos) Γ (.sq true ds) :=
  x_t1 hF (fun n => by have := call_tuple_of (X := F n); rw [hF.K n] at this; exact this) hm (by decide +kernel) h (fun H0 v G H e pd Q q => by
    obtain ⟨l, xs, ev, hq, hd⟩ := dt_sq pd
    subst ev
    exact ⟨l, xs, rfl, .inr ⟨.inl (.inl (e _ _ hq)), q _ G H (Nx.refl e) fun _ _ => pd⟩⟩) hg (he := he)
theorem o_sorted (hm : W.mg "sorted" = none) (hF : Fam W k N F) (h : XQ W F a Γ t ds) (ok : SortOk ds) (hg : ∀ n, Gl (F n) "sorted" := by intro _; rfl) (he : ∀ n, starEach [a] (F n).env = (false, eval a (F n).env) :: starEach [] (F n).env := by intro _; rfl) : XE F (.Call (.Name "sorted" p) [a] [] pos) Γ (.mL (sortD ds)) :=
  x_c1 hF (fun n => by have := cr_sortD (X := F n) (by have := (hF.room n).units; omega); rw [hF.K n] at this; exact this) hm (by decide +kernel) h (P1 := QOk W.K t ds) (by intro H0 v G H e pd Q q; obtain ⟨l, xs, ev, hq, hd⟩ := pd; exact ⟨l, xs, ds, G, by rw [ev], sqb_or hq, e, hd, ok, fun p ys hp hy => r1_newL e hy q p hp⟩) hg (he := he)
theorem x_int1 {i : Int} (hm : W.mg "int" = none) (hF : Fam W k N F) (h : XD F a Γ (.int i)) (hg : ∀ n, Gl (F n) "int" := by intro _; rfl) (he : ∀ n, starEach [a] (F n).env = (false, eval a (F n).env) :: starEach [] (F n).env := by intro _; rfl) : XD F (.Call (.Name "int" p) [a] [] pos) Γ (.int i) :=
  x_t1 hF (fun n => call_int1) hm (by decide +kernel) h (r1_val fun H0 v G H e pd => ⟨v, pd, fun Q q => by cases pd; exact .inl ⟨i, rfl, q⟩⟩) hg (he := he)
theorem x_abs {i : Int} (hm : W.mg "abs" = none) (hF : Fam W k N F) (h : XD F a Γ (.int i)) (hg : ∀ n, Gl (F n) "abs" := by intro _; rfl) (he : ∀ n, starEach [a] (F n).env = (false, eval a (F n).env) :: starEach [] (F n).env := by intro _; rfl) : XD F (.Call (.Name "abs" p) [a] [] pos) Γ (.int (if i < 0 then -i else i)) :=
  x_c1 hF (fun n => call_abs) hm (by decide +kernel) h (r1_val fun H0 v G H e pd => ⟨_, .int _, fun Q q => by cases pd; exact ⟨i, rfl, q⟩⟩) hg (he := he)
theorem x_sum {ns : List Int} (hm : W.mg "sum" = none) (hF : Fam W k N F) (h : XQ W F a Γ false (ns.map .int)) (hg : ∀ n, Gl (F n) "sum" := by intro _; rfl) (he : ∀ n, starEach [a] (F n).env = (false, eval a (F n).env) :: starEach [] (F n).env := by intro _; rfl) : XD F (.Call (.Name "sum" p) [a] [] pos) Γ (.int ns.sum) :=
  x_c1 hF (fun n => by have := cr_sum (X := F n) (hF.calm n); rw [hF.K n] at this; exact this) hm (by decide +kernel) h (r1_val fun H0 v G H e pd => by
    obtain ⟨l, ev, hq⟩ := q_ints pd
    exact ⟨_, .int _, fun Q q => ⟨l, ns, by rw [ev], hq, q⟩⟩) hg (he := he)
theorem x_min {ns : List Int} {m : Int} (hm : W.mg "min" = none) (hF : Fam W k N F) (h : XQ W F a Γ false (ns.map .int)) (h1 : m ∈ ns) (h2 : ∀ y ∈ ns, m ≤ y) (hg : ∀ n, Gl (F n) "min" := by intro _; rfl) (he : ∀ n, starEach [a] (F n).env = (false, eval a (F n).env) :: starEach [] (F n).env := by intro _; rfl) : XD F (.Call (.Name "min" p) [a] [] pos) Γ (.int m) :=
  x_c1 hF (fun n => by have := cr_min (X := F n) (hF.calm n); rw [hF.K n] at this; exact this) hm (by decide +kernel) h (fun H0 v G H e pd Q q => by
    obtain ⟨l, ev, hq⟩ := q_ints pd
    refine ⟨l, ns, by rw [ev], hq, List.length_pos_of_mem h1, fun m' a1 a2 => ?_⟩
    have e2 : m' = m := by
      have := a2 m h1
      have := h2 m' a1
      omega
    subst e2
    exact q _ G H (Nx.refl e) fun _ _ => .int _) hg (he := he)

/-! ### items, parts -/
theorem dta_at' {G : Hp} {xs : List V} {i : Int} (h : DtAll G xs ds) (ha : atI ds i = some d) : ∃ v, atI xs i = some v ∧ Dt G v d := by
  unfold atI at ha ⊢
  rw [dta_len h]
  cases hi : ixN ds.length i with
  | none =>
    rw [hi] at ha
    cases ha
  | some j =>
    rw [hi] at ha
    exact dta_get h ha
theorem x_ix {i : Int} (hF : Fam W k N F) (h : XQ W F a Γ t ds) (hb : XD F b Γ (.int i)) (ha : atI ds i = some d) (hs : PlainIx b := by intro _ _; rfl) : XD F (.Subscript a b pos) Γ d :=
  x_op (r := rIx W.K) (fun _ _ h1 h2 n => by have := pe_ix (X := F n) (pos := pos) ix_seq (h1 n) (h2 n) hs; rw [hF.K n] at this; exact this) stb_q h hb (rd_val fun H0 H00 x y G H e ⟨l, xs, ev, hq, hd⟩ q => by
    cases q
    obtain ⟨v, hv, hdv⟩ := dta_at' hd ha
    subst ev
    refine ⟨v, hdv, fun Q q => ?_⟩
    rcases sqb_or hq with z | z
    · exact .inl ⟨l, xs, i, v, rfl, rfl, z, hv, q⟩
    · exact .inr (.inl ⟨l, xs, i, v, rfl, rfl, z, hv, q⟩))
/-- a part of a slice -/
def wO (F : ι → Cx) (e : Option Expr) : TO := fun σ H Q => ∃ te, (∀ i, PO (F i) e te) ∧ te σ H Q
theorem po_w {e : Option Expr} (n : ι) : PO (F n) e (wO F e) := ⟨fun pins s σ H Q I ⟨_, h, q⟩ => (h n).run pins s σ H Q I q⟩
def XO (F : ι → Cx) (e : Option Expr) (Γ : List Sl) (o : Option Int) : Prop := ∀ H0 G H σ, Env H0 G H σ Γ → ∀ Q : Option Int → Hp → Prop, (∀ G' H', Nx G H G' H' → Q o H') → wO F e σ H Q
theorem o_none : XO F none Γ none := fun H0 G H σ E Q q => ⟨_, fun _ => po_none, q G H (Nx.refl E.gh)⟩
theorem o_some {i : Int} (h : XD F a Γ (.int i)) : XO F (some a) Γ (some i) := fun H0 G H σ E Q q => ⟨_, fun n => po_some (pe_w n), h H0 G H σ E _ fun v G1 H1 n1 p => by
  cases p
  exact ⟨i, rfl, q G1 H1 n1⟩⟩
def cutD (ds : List Dat) (lo hi : Option Int) : List Dat := (ds.drop (HT.sIx ds.length 0 lo)).take (HT.sIx ds.length ds.length hi - HT.sIx ds.length 0 lo)
theorem dta_cut {G : Hp} {xs : List V} {lo hi : Option Int} (h : DtAll G xs ds) : DtAll G (cutV xs lo hi) (cutD ds lo hi) := by
  unfold cutV cutD
  rw [dta_len h]
  exact dta_take _ (dta_drop _ h)
theorem cut_whole {ds : List Dat} {lo hi : Option Int} (h : HT.sIx ds.length 0 lo = 0 ∧ HT.sIx ds.length ds.length hi = ds.length) : cutD ds lo hi = ds := by
  unfold cutD
  rw [h.1, h.2, List.drop_zero, Nat.sub_zero, List.take_length]
theorem o_slL {lo hi : Option Expr} {l u : Option Int} {p2 : Pos} (hF : Fam W k N F) (h : XQ W F a Γ false ds) (hl : XO F lo Γ l) (hh : XO F hi Γ u) : XE F (.Subscript a (.Slice lo hi none p2) pos) Γ (.mL (cutD ds l u)) := fun H0 G H σ E Q q =>
  ⟨tSl (rSlL W.K) (wE F a) (wO F lo) (wO F hi), fun n => by have := pe_slice (X := F n) (pos := pos) (p2 := p2) sl_list (pe_w (F := F) (e := a) n) (po_w (F := F) (e := lo) n) (po_w (F := F) (e := hi) n); rw [hF.K n] at this; exact this,
    h H0 G H σ E _ fun v G1 H1 n1 p1 => hl H0 G1 H1 σ (E.mono n1) _ fun G2 H2 n2 => hh H0 G2 H2 σ ((E.mono n1).mono n2) _ fun G3 H3 n3 => by
      obtain ⟨l, xs, ev, hq, hd⟩ := qok_mono n3 (qok_mono n2 p1)
      have nn := (n1.trans n2).trans n3
      exact ⟨l, xs, ev, hq, r1_newL nn.gh (dta_cut hd) fun w G' H' n' pp => q w G' H' (nn.trans n') (pp H nn.hh)⟩⟩
theorem x_slT {lo hi : Option Expr} {l u : Option Int} {p2 : Pos} (hF : Fam W k N F) (h : XD F a Γ (.sq true ds)) (hl : XO F lo Γ l) (hh : XO F hi Γ u) : XD F (.Subscript a (.Slice lo hi none p2) pos) Γ (.sq true (cutD ds l u)) := fun H0 G H σ E Q q =>
  ⟨tSl (rSlA W.K) (wE F a) (wO F lo) (wO F hi), fun n => by have := pe_slice (X := F n) (pos := pos) (p2 := p2) sl_tupA (pe_w (F := F) (e := a) n) (po_w (F := F) (e := lo) n) (po_w (F := F) (e := hi) n); rw [hF.K n] at this; exact this,
    h H0 G H σ E _ fun v G1 H1 n1 p1 => hl H0 G1 H1 σ (E.mono n1) _ fun G2 H2 n2 => hh H0 G2 H2 σ ((E.mono n1).mono n2) _ fun G3 H3 n3 => by
      have p3 : Dt G3 v (.sq true ds) := dt_mono (n2.trans n3).gg p1
      have nn := (n1.trans n2).trans n3
      obtain ⟨l, xs, ev, hq, hd⟩ := dt_sq p3
      subst ev
      refine ⟨l, xs, rfl, .inl (.inl (n3.gh _ _ hq)), fun hw => ?_, fun _ => r1_newT nn.gh (dta_cut hd) fun w G' H' n' pp => q w G' H' (nn.trans n') (pp H nn.hh)⟩
      refine q _ G3 H3 nn ?_
      rw [cut_whole (by rw [← dta_len hd]; exact hw)]
      exact p3⟩
/-- of a row: a new tuple -/
theorem x_slR {ns : List Int} {lo hi : Option Expr} {l u : Option Int} {p2 : Pos} (hF : Fam W k N F) (h : XD F a Γ (.row ns)) (hl : XO F lo Γ l) (hh : XO F hi Γ u) (hw : ¬ (HT.sIx ns.length 0 l = 0 ∧ HT.sIx ns.length ns.length u = ns.length)) : XD F (.Subscript a (.Slice lo hi none p2) pos) Γ (.sq true (cutD (ns.map .int) l u)) := fun H0 G H σ E Q q =>
  ⟨tSl (rSlA W.K) (wE F a) (wO F lo) (wO F hi), fun n => by have := pe_slice (X := F n) (pos := pos) (p2 := p2) sl_tupA (pe_w (F := F) (e := a) n) (po_w (F := F) (e := lo) n) (po_w (F := F) (e := hi) n); rw [hF.K n] at this; exact this,
    h H0 G H σ E _ fun v G1 H1 n1 p1 => hl H0 G1 H1 σ (E.mono n1) _ fun G2 H2 n2 => hh H0 G2 H2 σ ((E.mono n1).mono n2) _ fun G3 H3 n3 => by
      have p3 : Dt G3 v (.row ns) := dt_mono (n2.trans n3).gg p1
      have nn := (n1.trans n2).trans n3
      obtain ⟨l, ob, ev, hq, _⟩ := dt_row p3
      subst ev
      exact ⟨l, ns.map V.int, rfl, .inl (.inr ⟨ob, n3.gh _ _ hq⟩), fun z => absurd (by simpa using z) hw, fun _ => r1_newT nn.gh (dta_cut (dta_of_ints ns)) fun w G' H' n' pp => q w G' H' (nn.trans n') (pp H nn.hh)⟩⟩

/-! ### a + b of sequences -/
theorem x_catT {xs ys : List Dat} (hF : Fam W k N F) (ha : XD F a Γ (.sq true xs)) (hb : XD F b Γ (.sq true ys)) (hl : xs.length + ys.length ≤ 100000) : XD F (.BinOp a .Add b pos) Γ (.sq true (xs ++ ys)) :=
  x_op (r := rAddU W.K) (fun _ _ h1 h2 n => by have := pe_op (X := F n) (pos := pos) op_addU (h1 n) (h2 n); rw [hF.K n] at this; exact this) stb_rs ha hb fun H0 H00 x y G H e p q Q hQ => by
    obtain ⟨l, us, rfl, h1, d1⟩ := dt_sq p
    obtain ⟨m, vs, rfl, h2, d2⟩ := dt_sq q
    refine .inr (.inl ⟨l, m, us, vs, rfl, rfl, .inl (.inl (e _ _ h1)), .inl (.inl (e _ _ h2)), sz_of (by rw [dta_len d1, dta_len d2]; exact hl), fun z => ?_, fun _ z => ?_, fun _ _ => r1_newT e (dta_append d1 d2) hQ⟩)
    · subst z
      cases d1
      exact hQ _ G H (Nx.refl e) fun _ _ => q
    · subst z
      cases d2
      refine hQ _ G H (Nx.refl e) fun _ _ => ?_
      rw [List.append_nil]
      exact p
theorem o_catL {xs ys : List Dat} (hF : Fam W k N F) (ha : XQ W F a Γ false xs) (hb : XQ W F b Γ false ys) (hl : xs.length + ys.length ≤ 100000) : XE F (.BinOp a .Add b pos) Γ (.mL (xs ++ ys)) :=
  x_op (r := rAddU W.K) (fun _ _ h1 h2 n => by have := pe_op (X := F n) (pos := pos) op_addU (h1 n) (h2 n); rw [hF.K n] at this; exact this) stb_q ha hb fun H0 H00 x y G H e p q Q hQ => by
    obtain ⟨l, us, rfl, h1, d1⟩ := p
    obtain ⟨m, vs, rfl, h2, d2⟩ := q
    exact .inr (.inr ⟨l, m, us, vs, rfl, rfl, h1, h2, sz_of (by rw [dta_len d1, dta_len d2]; exact hl), r1_newL e (dta_append d1 d2) hQ⟩)
/-- a list just made, to be read -/
theorem q_mL (h : XE F a Γ (.mL ds)) : XQ W F a Γ false ds := h.imp fun H v G' H' ⟨l, xs, ev, h0, g, hh, dd⟩ => ⟨l, xs, ev, .inl (.inl hh), dd⟩

/-! ### dicts -/
def KOk (kvs : List (List Int × Dat)) : Pr := fun _ v G H => ∃ l ps, v = .ref l ∧ Rd H l (.dT ps) ∧ DKv G ps kvs
theorem stb_k {kvs : List (List Int × Dat)} : Stb (KOk kvs) := fun _ _ _ _ _ _ n ⟨l, ps, ev, r, dd⟩ => ⟨l, ps, ev, ex_rd n.hh r, dkv_mono n.gg dd⟩
abbrev XDk (F : ι → Cx) (e : Expr) (Γ : List Sl) (kvs : List (List Int × Dat)) : Prop := XP F e Γ (KOk kvs)
variable {kvs : List (List Int × Dat)} {key : List Int}
theorem k_var {x : Str} (i : Nat) (hF : Fam W k N F) (hs : Γ[i]? = some (.mD kvs) := by rfl) (hN : N[i]? = some x := by rfl) (hv : ∀ j, Vis (F j).env.scope x := by first | exact fun _ => Or.inl rfl | exact fun _ => Or.inr (Or.inl rfl) | exact fun _ => Or.inr (Or.inr rfl))
    (hd : (x == ("__debug__" : Str)) = false := by decide) (hcd : (x == ("__classdict__" : Str)) = false := by decide) : XDk F (.Name x pos) Γ kvs := fun H0 G H σ E Q q => by
  obtain ⟨v, h1, l, ps, ev, h0, g, hh, dd⟩ := E.get hs (by intro z; cases z)
  exact ⟨tVar i, fun j => pe_var (by rw [hF.names j]; exact hN) (hv j) hd hcd, v, h1, q v G H (Nx.refl E.gh) ⟨l, ps, ev, .inl hh, dd⟩⟩
theorem k_dic (h : XD F a Γ (.dic kvs)) : XDk F a Γ kvs := fun H0 G H σ E Q q => h H0 G H σ E Q fun v G1 H1 n1 p => by
  obtain ⟨l, ob, ps, ev, r, dd⟩ := dt_dic p
  exact q v G1 H1 n1 ⟨l, ps, ev, .inr ⟨ob, n1.gh _ _ r⟩, dd⟩
theorem o_dnew : XE F (.Dict [] [] pos) Γ (.mD []) := fun H0 G H σ E Q q => ⟨_, fun _ => pe_dnewT, fun l hl => q _ G _ (Nx.newH E.gh hl) ⟨l, [], rfl, hl, fresh_back E.gh hl, upd_same, .nil⟩⟩
theorem dkey {G H : Hp} {y : V} (e : Ex G H) (h : Dt G y (tI key)) : ∃ q, y = .ref q ∧ H q = some (.tup ((kI key).map kV)) := by
  obtain ⟨q, xs, ev, hq, hd⟩ := dt_sq h
  refine ⟨q, ev, ?_⟩
  rw [kI_vals, ← dta_ints hd]
  exact e _ _ hq
theorem hu1 (hF : Fam W k N F) (n : ι) : (F n).A.units + 1 < cLine := by have := (hF.room n).units; omega
theorem x_dget (hF : Fam W k N F) (ho : XDk F a Γ kvs) (hi : XD F b Γ (tI key)) (hv : valD kvs key = some d) (hs : NoSl b := by intro _ _; rfl) : XD F (.Subscript a b pos) Γ d := fun H0 G H σ E Q q =>
  ⟨_, fun n => pe_dget (hu1 hF n) (pe_w n) (pe_w n) hs, ho H0 G H σ E _ fun v G1 H1 n1 p1 => hi H0 G1 H1 σ (E.mono n1) _ fun y G2 H2 n2 p2 => by
    obtain ⟨l, ps, ev, r, dd⟩ := stb_k _ _ _ _ _ _ n2 p1
    obtain ⟨u, eu, hu⟩ := dkey n2.gh p2
    rcases dkv_val (k := key) dd with ⟨z, _⟩ | ⟨w, d', z1, z2, z3⟩
    · rw [hv] at z
      cases z
    · rw [hv] at z1
      cases z1
      exact ⟨l, w, ev, .inr ⟨ps, kI key, u, r, eu, hu, z2.symm⟩, q w G2 H2 (n1.trans n2) z3⟩⟩
/-- d.get(k, x) -/
theorem x_dget2 {apos : Pos} (hF : Fam W k N F) (ho : XDk F a Γ kvs) (hi : XD F b Γ (tI key)) (hx : XD F c Γ d) (m : ∀ n, M2 (F n) a "get" apos b c pos := by exact fun _ => ⟨rfl, rfl, rfl, rfl⟩) : XD F (.Call (.Attribute a "get" apos) [b, c] [] pos) Γ ((valD kvs key).getD d) := fun H0 G H σ E Q q =>
  ⟨_, fun n => pe_dget2 (hu1 hF n) (pe_w n) (pe_w n) (pe_w n) (m n), ho H0 G H σ E _ fun v G1 H1 n1 p1 => by
    have p1' := p1
    obtain ⟨l, ps, ev, r, _⟩ := p1
    refine ⟨l, ev, .inr ⟨ps, r⟩, hi H0 G1 H1 σ (E.mono n1) _ fun y G2 H2 n2 p2 => hx H0 G2 H2 σ ((E.mono n1).mono n2) _ fun z G3 H3 n3 p3 => ?_⟩
    obtain ⟨l2, ps2, ev2, r2, dd⟩ := stb_k _ _ _ _ _ _ n3 (stb_k _ _ _ _ _ _ n2 p1')
    rw [ev] at ev2
    cases ev2
    obtain ⟨u, eu, hu⟩ := dkey (n2.trans n3).gh (dt_mono n3.gg p2)
    rcases dkv_val (k := key) dd with ⟨z1, z2⟩ | ⟨w, d', z1, z2, z3⟩
    · refine ⟨none, .inr ⟨ps2, kI key, u, r2, eu, hu, z2.symm⟩, q _ G3 H3 ((n1.trans n2).trans n3) ?_⟩
      rw [z1]
      exact p3
    · refine ⟨some w, .inr ⟨ps2, kI key, u, r2, eu, hu, z2.symm⟩, q _ G3 H3 ((n1.trans n2).trans n3) ?_⟩
      rw [z1]
      exact z3⟩
/-- changing what slot i owns -/
theorem Env.change {H0 G H : Hp} {σ : L2.St} {i : Nat} {l : Addr} {u : HO} {s s' : Sl} (E : Env H0 G H σ Γ) (hs : Γ[i]? = some s) (os : s.own = true) (hv : σ[i]? = some (some (.ref l))) (r : RsOk H0 (.ref l) G (upd H l u) s') : Env H0 G (upd H l u) σ (Γ.set i s') := by
  obtain ⟨v, hv2, hr⟩ := E.get hs (by intro z; subst z; cases os)
  rw [hv] at hv2
  cases hv2
  obtain ⟨l', el, h0, g, _⟩ := own_addr os hr
  cases el
  have hi : i < Γ.length := by
    rcases Nat.lt_or_ge i Γ.length with z | z
    · exact z
    · rw [List.getElem?_eq_none z] at hs; cases hs
  refine ⟨Ex.mut E.h0 h0, Ex.mut E.gh g, by rw [List.length_set, E.len], fun j t h => ?_, fun j m t u' a h1 h2 o1 o2 h3 h4 => ?_⟩
  · by_cases c : i = j
    · subst c
      rw [List.getElem?_set_self hi] at h
      cases h
      exact .inr ⟨_, hv, r⟩
    · rw [List.getElem?_set_ne c] at h
      rcases E.sl j t h with z | ⟨w, hw, rw'⟩
      · exact .inl z
      · refine .inr ⟨w, hw, ?_⟩
        have keep : ∀ {b : Addr}, t.own = true → w = .ref b → b ≠ l := fun {b} ot eb z => by
          subst eb z
          exact c (E.ap i j _ t b hs h os ot hv hw)
        cases t with
        | no => trivial
        | dat d => exact rw'
        | mL es =>
          obtain ⟨b, ys, eb, b0, bg, bh, bd⟩ := rw'
          exact ⟨b, ys, eb, b0, bg, by rw [upd_ne (keep rfl eb)]; exact bh, bd⟩
        | mD es =>
          obtain ⟨b, ys, eb, b0, bg, bh, bd⟩ := rw'
          exact ⟨b, ys, eb, b0, bg, by rw [upd_ne (keep rfl eb)]; exact bh, bd⟩
        | mO b C fs =>
          obtain ⟨dx, ys, eb, b0, bg, bh, bd⟩ := rw'
          exact ⟨dx, ys, eb, b0, bg, by rw [upd_ne (keep rfl eb)]; exact bh, bd⟩
  · have key : ∀ {j : Nat} {t : Sl}, (Γ.set i s')[j]? = some t → t.own = true → ∃ t', Γ[j]? = some t' ∧ t'.own = true := fun {j t} hj ot => by
      by_cases c : i = j
      · subst c
        exact ⟨s, hs, os⟩
      · rw [List.getElem?_set_ne c] at hj
        exact ⟨t, hj, ot⟩
    obtain ⟨t1, a1, a2⟩ := key h1 o1
    obtain ⟨t2, b1, b2⟩ := key h2 o2
    exact E.ap j m t1 t2 a a1 b1 a2 b2 h3 h4
/-- d[k] = v -/
theorem s_dput {x : Str} {px pp : Pos} (i : Nat) (hF : Fam W k N F) (hs : Γ[i]? = some (.mD kvs)) (hk : XD F b Γ (tI key)) (hv : XD F c Γ d) (hl : kvs.length < 100000) (hN : N[i]? = some x := by rfl) (hvis : ∀ j, Vis (F j).env.scope x := by first | exact fun _ => Or.inl rfl | exact fun _ => Or.inr (Or.inl rfl))
    (hsw : ∀ n, swapsWith c (some (.Subscript (.Name x px) b pp)) pos.line (F n).env = pure false := by intro _; rfl) (hd : (x == ("__debug__" : Str)) = false := by decide) (hcd : (x == ("__classdict__" : Str)) = false := by decide) :
    XS F (.Assign [.Subscript (.Name x px) b pp] c pos) Γ (.nx (Γ.set i (.mD (putD kvs key d)))) := fun G0 H0 G H σ n E D q =>
  ⟨_, fun j => ps_dput (hu1 hF j) (pe_var (i := i) (by rw [hF.names j]; exact hN) (hvis j) hd hcd) (pe_w j) (pe_w j) (hsw j), hv H0 G H σ E _ fun v G1 H1 n1 p1 => by
    obtain ⟨w, hw, l, ps, ev, h0, g, hh, dd⟩ := (E.mono n1).get hs (by intro z; cases z)
    subst ev
    refine ⟨.ref l, hw, hk H0 G1 H1 σ (E.mono n1) _ fun y G2 H2 n2 p2 => ?_⟩
    have E2 := (E.mono n1).mono n2
    obtain ⟨u, eu, hu⟩ := dkey n2.gh p2
    have hh2 := n2.hh _ _ hh
    have g2 := n2.hidT hh g
    have nn := n.trans (n1.trans n2)
    refine ⟨l, _, rfl, .inr ⟨ps, kI key, u, hh2, eu, hu, sz_lt (by rw [dkv_len dd]; exact hl), rfl⟩, q σ G2 _ (nn.mut h0 g2) (n1.trans n2).gg ?_⟩
    exact E2.change hs rfl hw ⟨l, _, rfl, h0, g2, upd_same, dkv_put (dt_mono n2.gg p1) (dkv_mono n2.gg dd)⟩⟩
/-- within, the dict that x holds is locked, and in sight -/
theorem o_lock {ds : List Dat} (i : Nat) (hs : Γ[i]? = some (.mD kvs)) (h : XE F e (Γ.set i (.dat (.dic kvs))) (.mL ds)) (hf : Dat.flatAll ds = true) : XE F e Γ (.mL ds) := fun H0 G H σ E Q q => by
  obtain ⟨v, hv, l, ps, rfl, h0, g, hh, dd⟩ := E.get hs (by intro z; cases z)
  refine ⟨tLockE (wE F e), fun n => pe_lock (pe_w n), l, .dT ps, hh, trivial, fun od => ?_⟩
  have hi : i < Γ.length := by
    rcases Nat.lt_or_ge i Γ.length with z | z
    · exact z
    · rw [List.getElem?_eq_none z] at hs; cases hs
  have e1 : Ex G (upd G l (.frz od (.dT ps))) := Ex.new g
  have gh : Ex (upd G l (.frz od (.dT ps))) (upd H l (.frz od (.dT ps))) := fun a u z => by
    by_cases c : a = l
    · subst c
      rw [upd_same] at z ⊢
      exact z
    · rw [upd_ne c] at z ⊢
      exact E.gh a u z
  have E1 : Env H0 (upd G l (.frz od (.dT ps))) (upd H l (.frz od (.dT ps))) σ (Γ.set i (.dat (.dic kvs))) := by
    refine ⟨Ex.mut E.h0 h0, gh, by rw [List.length_set, E.len], fun j t hj => ?_, fun j m t u a h1 h2 o1 o2 h3 h4 => ?_⟩
    · by_cases c : i = j
      · subst c
        rw [List.getElem?_set_self hi] at hj
        cases hj
        exact .inr ⟨_, hv, .dic upd_same (dkv_mono e1 dd)⟩
      · rw [List.getElem?_set_ne c] at hj
        rcases E.sl j t hj with z | ⟨u, hu, r⟩
        · exact .inl z
        · refine .inr ⟨u, hu, ?_⟩
          have keep : ∀ {b : Addr}, t.own = true → u = .ref b → b ≠ l := fun {b} os eb z => by
            subst eb z
            exact c (E.ap i j _ t b hs hj rfl os hv hu)
          cases t with
          | no => trivial
          | dat d => exact dt_mono e1 r
          | mL es =>
            obtain ⟨b, ys, eb, b0, bg, bh, bd⟩ := r
            exact ⟨b, ys, eb, b0, by rw [upd_ne (keep rfl eb)]; exact bg, by rw [upd_ne (keep rfl eb)]; exact bh, dta_mono e1 bd⟩
          | mD es =>
            obtain ⟨b, ys, eb, b0, bg, bh, bd⟩ := r
            exact ⟨b, ys, eb, b0, by rw [upd_ne (keep rfl eb)]; exact bg, by rw [upd_ne (keep rfl eb)]; exact bh, dkv_mono e1 bd⟩
          | mO b C fs =>
            obtain ⟨dx, ys, eb, b0, bg, bh, bd⟩ := r
            exact ⟨dx, ys, eb, b0, by rw [upd_ne (keep rfl eb)]; exact bg, by rw [upd_ne (keep rfl eb)]; exact bh, dtf_mono e1 bd⟩
    · have key : ∀ {j : Nat} {s : Sl}, (Γ.set i (.dat (.dic kvs)))[j]? = some s → s.own = true → Γ[j]? = some s := fun {j s} hj os => by
        by_cases c : i = j
        · subst c
          rw [List.getElem?_set_self hi] at hj
          cases hj
          cases os
        · rw [List.getElem?_set_ne c] at hj
          exact hj
      exact E.ap j m t u a (key h1 o1) (key h2 o2) o1 o2 h3 h4
  refine h H0 _ _ σ E1 _ fun w G2 H2 n2 p2 => ?_
  obtain ⟨a, xs, rfl, ha0, ga, haH, da⟩ := p2
  have hl2 : H2 l = some (.frz od (.dT ps)) := n2.hh _ _ upd_same
  have gl2 : G2 l = some (.frz od (.dT ps)) := n2.gg _ _ upd_same
  have hal : a ≠ l := fun z => by rw [z, upd_same] at ha0; cases ha0
  have ha : H a = none := by rw [upd_ne hal] at ha0; exact ha0
  refine ⟨hl2, q _ (hide l G2) _ ⟨fun b u z => ?_, fun b u z => ?_, fun b u z => ?_, fun b u z tz gz => ?_⟩ ⟨a, xs, rfl, ha, by rw [hide_ne hal]; exact ga, by rw [upd_ne hal]; exact haH, dta_hide gl2 da hf⟩⟩
  · by_cases c : b = l
    · subst c
      rw [hh] at z
      rw [upd_same]
      exact z
    · rw [upd_ne c]
      exact n2.hh b u (by rw [upd_ne c]; exact z)
  · have c : b ≠ l := fun z2 => by rw [z2, g] at z; cases z
    rw [hide_ne c]
    exact n2.gg b u (by rw [upd_ne c]; exact z)
  · by_cases c : b = l
    · subst c
      rw [hide_same] at z
      cases z
    · rw [hide_ne c] at z
      rw [upd_ne c]
      exact n2.gh b u z
  · by_cases c : b = l
    · subst c
      exact hide_same
    · rw [hide_ne c]
      exact n2.hid (by rw [upd_ne c]; exact z) tz (by rw [upd_ne c]; exact gz)
/-- all tuples come into sight -/
def tupsIn (G H : Hp) : Hp := fun x => match G x with
  | some u => some u
  | none => match H x with
    | some (.tup xs) => some (.tup xs)
    | _ => none
theorem tupsIn_old {G H : Hp} {x : Addr} {u : HO} (h : G x = some u) : tupsIn G H x = some u := by
  unfold tupsIn
  rw [h]
theorem tupsIn_new {G H : Hp} {x : Addr} {xs : List V} (e : Ex G H) (h : H x = some (.tup xs)) : tupsIn G H x = some (.tup xs) := by
  cases g : G x with
  | some u =>
    rw [tupsIn_old g]
    have := e _ _ g
    rw [h] at this
    exact this.symm
  | none =>
    unfold tupsIn
    rw [g, h]
theorem tupsIn_nx {G H : Hp} (e : Ex G H) : Nx G H (tupsIn G H) H := by
  refine ⟨Ex.refl H, fun x u h => tupsIn_old h, fun x u h => ?_, fun x u h ht g => ?_⟩
  · cases g : G x with
    | some u' =>
      rw [tupsIn_old g] at h
      rw [← h]
      exact e _ _ g
    | none =>
      unfold tupsIn at h
      rw [g] at h
      have h' : (match H x with
        | some (.tup xs) => some (HO.tup xs)
        | _ => none) = some u := h
      cases q : H x with
      | none =>
        rw [q] at h'
        cases h'
      | some z =>
        rw [q] at h'
        cases z <;> first | exact h' | cases h'
  · unfold tupsIn
    rw [g, h]
    cases u <;> first | rfl | exact absurd rfl (ht _)
theorem dta_tups {G H : Hp} (e : Ex G H) : ∀ {vs : List V} {ds : List Dat}, DtAll H vs ds → (∀ d ∈ ds, ∃ ns, d = tI ns) → DtAll (tupsIn G H) vs ds
  | _, _, .nil, _ => .nil
  | _, _, .cons h t, f => by
    obtain ⟨ns, rfl⟩ := f _ List.mem_cons_self
    obtain ⟨l, xs, rfl, hl, hd⟩ := dt_sq h
    refine .cons (.sq (t := true) (tupsIn_new e hl) ?_) (dta_tups e t fun d hd => f d (List.mem_cons_of_mem _ hd))
    rw [dta_ints hd]
    exact dta_of_ints ns
/-- sorted(d) -/
theorem o_sortK (hm : W.mg "sorted" = none) (hF : Fam W k N F) (h : XDk F a Γ kvs) (ok : SortOk (kvs.map fun p => tI p.1)) (hg : ∀ n, Gl (F n) "sorted" := by intro _; rfl) (he : ∀ n, starEach [a] (F n).env = (false, eval a (F n).env) :: starEach [] (F n).env := by intro _; rfl) :
    XE F (.Call (.Name "sorted" p) [a] [] pos) Γ (.mL (sortD (kvs.map fun p => tI p.1))) :=
  x_c1 hF (fun n => cr_sortK (X := F n) (by have := (hF.room n).units; omega) (hF.calm n)) hm (by decide +kernel) h (P1 := KOk kvs) (fun H0 v G H e ⟨l, ps, ev, r, dd⟩ Q q => by
    subst ev
    have ek : (kvs.map fun p => tI p.1) = (kvs.map (·.1)).map tI := by rw [List.map_map]; rfl
    rw [ek] at ok q
    refine ⟨l, ps, kvs.map (·.1), rfl, r, dkv_keys dd, ok, fun p ys hp hy => ?_⟩
    have n1 := tupsIn_nx e
    refine q _ (tupsIn G H) _ (n1.trans (Nx.newH n1.gh hp)) fun Ha ea => ⟨p, ys, rfl, fresh_back ea hp, fresh_back n1.gh hp, upd_same, dta_tups e hy fun d hd => ?_⟩
    obtain ⟨ns, _, rfl⟩ := List.mem_map.mp (List.mem_mergeSort.mp hd)
    exact ⟨ns, rfl⟩) hg (he := he)
end
end FX
/-! part FG -/
set_option Elab.async false
set_option linter.all false
set_option maxRecDepth 100000
set_option maxHeartbeats 2000000
/-! Methods of lists and rows, isinstance, own defs, over data. -/
namespace FX
open PySem PySem.Spec PyProof.Rows L2 Evl
section
variable {ι : Type} {W : Wd} {k : Nat} {N : List Str} {F : ι → Cx} {Γ Γ1 Γ2 : List Sl} {a b c e : Expr} {es : List Expr} {st : Stmt} {sts : List Stmt} {d da db dc : Dat} {s : Sl} {o : Out} {pos : Pos} {P P1 P2 : Pr} {t : Bool} {ds : List Dat}

/-! ### methods -/
/-- x.append(e) -/
theorem s_append {x : Str} {px apos cpos : Pos} (i : Nat) (hF : Fam W k N F) (hs : Γ[i]? = some (.mL ds)) (h : XD F e Γ d) (hl : ds.length < 100000) (hN : N[i]? = some x := by rfl) (hvis : ∀ j, Vis (F j).env.scope x := by first | exact fun _ => Or.inl rfl | exact fun _ => Or.inr (Or.inl rfl))
    (hd : (x == ("__debug__" : Str)) = false := by decide) (hcd : (x == ("__classdict__" : Str)) = false := by decide)
    (hbase : ∀ n, attributeBase (.Name x px) "append" (F n).env (eval (.Name x px) (F n).env) = eval (.Name x px) (F n).env := by intro _; rfl)
    (hfew : ∀ n, ((backTo cpos (starEach [e] (F n).env)).all (fun x => !x.1) && (backToKw cpos (keywordEach [] (F n).env)).all (fun x => x.1.isSome)
      && decide ([e].length + ([] : List Keyword).length + (if ([] : List Keyword).isEmpty then 0 else 1) < 30)) = true := by intro _; rfl)
    (hline : (apos.endLine == cpos.line) = true := by rfl) (he : ∀ n, starEach [e] (F n).env = (false, eval e (F n).env) :: starEach [] (F n).env := by intro _; rfl) (hplain : ∀ n, (backTo cpos (starEach [] (F n).env)).any (·.1) = false := by intro _; rfl)
    (hsw : ∀ n, swapsWith (.Call (.Attribute (.Name x px) "append" apos) [e] [] cpos) none pos.line (F n).env = pure false := by intro _; rfl) :
    XS F (.Expr (.Call (.Attribute (.Name x px) "append" apos) [e] [] cpos) pos) Γ (.nx (Γ.set i (.mL (ds ++ [d])))) := fun G0 H0 G H σ n E D q => by
  obtain ⟨w, hw, l, xs, ev, h0, g, hh, dd⟩ := E.get hs (by intro z; cases z)
  subst ev
  refine ⟨tDrop (tBM W.K "list" rAppend (tVar i) (tCons (wE F e) tNil)), fun j => ?_, .ref l, hw, .inl ⟨rfl, xs, .inl (.inl hh)⟩, h H0 G H σ E _ fun v G1 H1 n1 p1 => ?_⟩
  · have := pe_bm (X := F j) PySem.F.plainAttrs_list PySem.F.slot_list_append PySem.F.type_list_append mt_append (pe_var (i := i) (pos := px) (by rw [hF.names j]; exact hN) (hvis j) hd hcd) (pa_cons (pe_w (F := F) (e := e) j) pa_nil (he j)) (hbase j) (hfew j) hline (he j) (hplain j)
    rw [hF.K j] at this
    exact ps_expr this (hsw j)
  · have hh1 := n1.hh _ _ hh
    have g1 := n1.hidL hh g
    have E1 := E.mono n1
    refine ⟨l, xs, v, rfl, rfl, hh1, sz_lt (by rw [dta_len dd]; exact hl), q σ G1 _ ((n.trans n1).mut h0 g1) n1.gg ?_⟩
    exact E1.change hs rfl hw ⟨l, _, rfl, h0, g1, upd_same, dta_append (dta_mono n1.gg dd) (.cons p1 .nil)⟩
/-- x.append(y.pop(e)) -/
theorem s_appendPop {x y : Str} {px apos cpos py apos2 cpos2 : Pos} {ls : List Dat} {m : Int} {mm : Nat} (i j : Nat) (hij : i ≠ j) (hF : Fam W k N F) (hs : Γ[i]? = some (.mL ds)) (hs2 : Γ[j]? = some (.mL ls)) (h : XD F e Γ (.int m)) (hm0 : 0 ≤ m) (hm1 : m < 2 ^ 62) (hmm : m = (mm : Nat)) (hd1 : ls[mm]? = some d) (hl : ds.length < 100000)
    (hN : N[i]? = some x := by rfl) (hN2 : N[j]? = some y := by rfl) (hvis : ∀ n, Vis (F n).env.scope x := by exact fun _ => Or.inl rfl) (hvis2 : ∀ n, Vis (F n).env.scope y := by exact fun _ => Or.inl rfl)
    (hd : (x == ("__debug__" : Str)) = false := by decide) (hcd : (x == ("__classdict__" : Str)) = false := by decide) (hd2 : (y == ("__debug__" : Str)) = false := by decide) (hcd2 : (y == ("__classdict__" : Str)) = false := by decide)
    (hbase : ∀ n, attributeBase (.Name x px) "append" (F n).env (eval (.Name x px) (F n).env) = eval (.Name x px) (F n).env := by intro _; rfl)
    (hfew : ∀ n, ((backTo cpos (starEach [.Call (.Attribute (.Name y py) "pop" apos2) [e] [] cpos2] (F n).env)).all (fun x => !x.1) && (backToKw cpos (keywordEach [] (F n).env)).all (fun x => x.1.isSome)
      && decide ([Expr.Call (.Attribute (.Name y py) "pop" apos2) [e] [] cpos2].length + ([] : List Keyword).length + (if ([] : List Keyword).isEmpty then 0 else 1) < 30)) = true := by intro _; rfl)
    (hline : (apos.endLine == cpos.line) = true := by rfl) (he : ∀ n, starEach [.Call (.Attribute (.Name y py) "pop" apos2) [e] [] cpos2] (F n).env = (false, eval (.Call (.Attribute (.Name y py) "pop" apos2) [e] [] cpos2) (F n).env) :: starEach [] (F n).env := by intro _; rfl)
    (hplain : ∀ n, (backTo cpos (starEach [] (F n).env)).any (·.1) = false := by intro _; rfl)
    (hbase2 : ∀ n, attributeBase (.Name y py) "pop" (F n).env (eval (.Name y py) (F n).env) = eval (.Name y py) (F n).env := by intro _; rfl)
    (hfew2 : ∀ n, ((backTo cpos2 (starEach [e] (F n).env)).all (fun x => !x.1) && (backToKw cpos2 (keywordEach [] (F n).env)).all (fun x => x.1.isSome)
      && decide ([e].length + ([] : List Keyword).length + (if ([] : List Keyword).isEmpty then 0 else 1) < 30)) = true := by intro _; rfl)
    (hline2 : (apos2.endLine == cpos2.line) = true := by rfl) (he2 : ∀ n, starEach [e] (F n).env = (false, eval e (F n).env) :: starEach [] (F n).env := by intro _; rfl) (hplain2 : ∀ n, (backTo cpos2 (starEach [] (F n).env)).any (·.1) = false := by intro _; rfl)
    (hsw : ∀ n, swapsWith (.Call (.Attribute (.Name x px) "append" apos) [.Call (.Attribute (.Name y py) "pop" apos2) [e] [] cpos2] [] cpos) none pos.line (F n).env = pure false := by intro _; rfl) :
    XS F (.Expr (.Call (.Attribute (.Name x px) "append" apos) [.Call (.Attribute (.Name y py) "pop" apos2) [e] [] cpos2] [] cpos) pos) Γ (.nx ((Γ.set j (.mL (ls.eraseIdx mm))).set i (.mL (ds ++ [d])))) := fun G0 H0 G H σ n E D q => by
  obtain ⟨w, hw, l, xs, ev, h0, g, hh, dd⟩ := E.get hs (by intro z; cases z)
  subst ev
  obtain ⟨w2, hw2, l2, xs2, ev2, h02, g2, hh2, dd2⟩ := E.get hs2 (by intro z; cases z)
  subst ev2
  have hne : l ≠ l2 := fun z => by
    subst z
    exact hij (E.ap i j _ _ l hs hs2 rfl rfl hw hw2)
  refine ⟨tDrop (tBM W.K "list" rAppend (tVar i) (tCons (tBM W.K "list" rPopAt (tVar j) (tCons (wE F e) tNil)) tNil)), fun n => ?_, .ref l, hw, .inl ⟨rfl, xs, .inl (.inl hh)⟩, .ref l2, hw2, .inl ⟨rfl, xs2, .inl (.inl hh2)⟩, h H0 G H σ E _ fun v G1 H1 n1 p1 => ?_⟩
  · have h2 := pe_bm (X := F n) PySem.F.plainAttrs_list PySem.F.slot_list_pop PySem.F.type_list_pop mt_popAt (pe_var (i := j) (pos := py) (by rw [hF.names n]; exact hN2) (hvis2 n) hd2 hcd2) (pa_cons (pe_w (F := F) (e := e) n) pa_nil (he2 n)) (hbase2 n) (hfew2 n) hline2 (he2 n) (hplain2 n)
    have := pe_bm (X := F n) PySem.F.plainAttrs_list PySem.F.slot_list_append PySem.F.type_list_append mt_append (pe_var (i := i) (pos := px) (by rw [hF.names n]; exact hN) (hvis n) hd hcd) (pa_cons h2 pa_nil (he n)) (hbase n) (hfew n) hline (he n) (hplain n)
    rw [hF.K n] at this
    exact ps_expr this (hsw n)
  · cases p1
    have e1 : m < ls.length := by
      rcases Nat.lt_or_ge mm ls.length with z | z
      · omega
      · rw [List.getElem?_eq_none z] at hd1; cases hd1
    obtain ⟨u, hu, hud⟩ := dta_get dd2 hd1
    have es1 : seqIndex? m xs2.length = some mm := by
      have := PySem.StrLaws.seqIndex_nonneg (n := xs2.length) hm0 (by rw [dta_len dd2]; exact e1)
      rw [this, hmm]
      rfl
    have hh21 := n1.hh _ _ hh2
    have g21 := n1.hidL hh2 g2
    have E1 := E.mono n1
    refine ⟨l2, xs2, m, mm, u, rfl, rfl, hh21, by omega, by omega, es1, hu, ?_⟩
    have E2 : Env H0 G1 (upd H1 l2 (.lst (xs2.eraseIdx mm))) σ (Γ.set j (.mL (ls.eraseIdx mm))) := E1.change hs2 rfl hw2 ⟨l2, _, rfl, h02, g21, upd_same, dta_erase mm (dta_mono n1.gg dd2)⟩
    have n2 := (n.trans n1).mut (o := .lst (xs2.eraseIdx mm)) h02 g21
    have hh1 : upd H1 l2 (.lst (xs2.eraseIdx mm)) l = some (.lst xs) := by rw [upd_ne hne]; exact n1.hh _ _ hh
    have g1 := n1.hidL hh g
    refine ⟨l, xs, u, rfl, rfl, hh1, sz_lt (by rw [dta_len dd]; exact hl), q σ G1 _ (n2.mut h0 g1) n1.gg ?_⟩
    exact E2.change (by rw [List.getElem?_set_ne (fun z => hij z.symm)]; exact hs) rfl hw ⟨l, _, rfl, h0, g1, upd_same, dta_append (dta_mono n1.gg dd) (.cons (dt_mono n1.gg hud) .nil)⟩
/-- x[j] = e, x a list out of sight -/
theorem s_setIx {x : Str} {px pp : Pos} {j : Int} {jj : Nat} (i : Nat) (hF : Fam W k N F) (hs : Γ[i]? = some (.mL ds)) (hb : XD F b Γ (.int j)) (hv : XD F c Γ d) (hj : j = (jj : Nat)) (hl : jj < ds.length) (hN : N[i]? = some x := by rfl) (hvis : ∀ j, Vis (F j).env.scope x := by first | exact fun _ => Or.inl rfl | exact fun _ => Or.inr (Or.inl rfl))
    (hsa : ∀ n (u : Value), assign (.Subscript (.Name x px) b pp) (F n).env u = (do
      let ov ← holding [u] (eval (.Name x px) (F n).env)
      let iv ← holding [u, ov] (eval b (F n).env)
      standAt pp
      holding [u, ov, iv] (setItem ov iv u)
      release [u, ov, iv] []) := by intro _ _; rfl)
    (hd : (x == ("__debug__" : Str)) = false := by decide) (hcd : (x == ("__classdict__" : Str)) = false := by decide)
    (hsw : ∀ j, swapsWithSole [.Subscript (.Name x px) b pp] c pos.line (F j).env = pure false := by intro _; rfl) (hw : ∀ j, swappedStores [.Subscript (.Name x px) b pp] c (F j).env = pure none := by intro _; rfl)
    (h1 : ∀ j, (assignEach [.Subscript (.Name x px) b pp] (F j).env).map (·.2) = [assign (.Subscript (.Name x px) b pp) (F j).env] := by intro _; rfl) :
    XS F (.Assign [.Subscript (.Name x px) b pp] c pos) Γ (.nx (Γ.set i (.mL (ds.set jj d)))) := fun G0 H0 G H σ n E D q =>
  ⟨_, fun n => ps_asg (pe_w n) (pg_sub (pe_var (i := i) (by rw [hF.names n]; exact hN) (hvis n) hd hcd) (pe_w n) set_list (hsa n)) (hsw n) (hw n) (h1 n), hv H0 G H σ E _ fun v G1 H1 n1 p1 => by
    obtain ⟨w, hw, l, xs, ev, h0, g, hh, dd⟩ := (E.mono n1).get hs (by intro z; cases z)
    subst ev
    refine ⟨.ref l, hw, hb H0 G1 H1 σ (E.mono n1) _ fun y G2 H2 n2 p2 => ?_⟩
    cases p2
    have E2 := (E.mono n1).mono n2
    have hh2 := n2.hh _ _ hh
    have g2 := n2.hidL hh g
    refine ⟨l, xs, j, jj, rfl, rfl, hh2, ?_, q σ G2 _ ((n.trans (n1.trans n2)).mut h0 g2) (n1.trans n2).gg ?_⟩
    · unfold ixN
      rw [dta_len dd, if_pos (by omega), if_pos (by omega), hj]
      rfl
    · exact E2.change hs rfl hw ⟨l, _, rfl, h0, g2, upd_same, dta_set jj (dta_mono n2.gg dd) (dt_mono n2.gg p1)⟩⟩
/-- the place of an int in a list of ints -/
theorem x_indexL {ns : List Int} {m : Int} {apos cpos : Pos} (hF : Fam W k N F) (h : XQ W F a Γ false (ns.map .int)) (hb : XD F b Γ (.int m)) (hm : m ∈ ns)
    (hbase : ∀ n, attributeBase a "index" (F n).env (eval a (F n).env) = eval a (F n).env := by intro _; rfl)
    (hfew : ∀ n, ((backTo cpos (starEach [b] (F n).env)).all (fun x => !x.1) && (backToKw cpos (keywordEach [] (F n).env)).all (fun x => x.1.isSome)
      && decide ([b].length + ([] : List Keyword).length + (if ([] : List Keyword).isEmpty then 0 else 1) < 30)) = true := by intro _; rfl)
    (hline : (apos.endLine == cpos.line) = true := by rfl) (he : ∀ n, starEach [b] (F n).env = (false, eval b (F n).env) :: starEach [] (F n).env := by intro _; rfl) (hplain : ∀ n, (backTo cpos (starEach [] (F n).env)).any (·.1) = false := by intro _; rfl) :
    XD F (.Call (.Attribute a "index" apos) [b] [] cpos) Γ (.int (ns.idxOf m : Nat)) := fun H0 G H σ E Q q =>
  ⟨tBM W.K "list" (rIndex W.K) (wE F a) (tCons (wE F b) tNil), fun n => by
      have hx := mt_index (X := F n)
      rw [hF.K n] at hx
      have := pe_bm (X := F n) PySem.F.plainAttrs_list PySem.F.slot_list_index PySem.F.type_list_index hx (pe_w (F := F) (e := a) n) (pa_cons (pe_w (F := F) (e := b) n) pa_nil (he n)) (hbase n) (hfew n) hline (he n) (hplain n)
      rw [hF.K n] at this
      exact this,
    h H0 G H σ E _ fun v G1 H1 n1 p1 => by
      obtain ⟨l, ev, hq⟩ := q_ints p1
      subst ev
      refine ⟨.inl ⟨rfl, _, hq⟩, hb H0 G1 H1 σ (E.mono n1) _ fun y G2 H2 n2 p2 => ?_⟩
      cases p2
      have hi : ns.idxOf m < ns.length := List.idxOf_lt_length_iff.mpr hm
      refine ⟨l, ns.map V.int, .int m, ns.idxOf m, .int m, rfl, rfl, ex_l n2.hh hq, rfl, flat_ints ns, by rw [List.getElem?_map, List.getElem?_eq_getElem hi, List.getElem_idxOf]; rfl, ?_, fun j z' hj hz => ?_, q _ G2 H2 (n1.trans n2) (.int _)⟩
      · show (m == m) = true
        exact beq_self_eq_true m
      · rw [List.getElem?_map] at hz
        cases hn : ns[j]? with
        | none => rw [hn] at hz; cases hz
        | some w =>
          rw [hn] at hz
          cases hz
          show (w == m) = false
          refine beq_eq_false_iff_ne.mpr fun z => ?_
          subst z
          have hj2 : j < ns.length := by omega
          rw [List.getElem?_eq_getElem hj2] at hn
          have hb2 := List.not_of_lt_findIdx (p := (· == w)) (xs := ns) hj
          rw [Option.some.inj hn, beq_self_eq_true] at hb2
          cases hb2⟩
/-- .. in a row -/
theorem x_indexR {ns : List Int} {m : Int} {apos cpos : Pos} (hF : Fam W k N F) (h : XD F a Γ (.row ns)) (hb : XD F b Γ (.int m)) (hm : m ∈ ns)
    (hbase : ∀ n, attributeBase a "index" (F n).env (eval a (F n).env) = eval a (F n).env := by intro _; rfl)
    (hfew : ∀ n, ((backTo cpos (starEach [b] (F n).env)).all (fun x => !x.1) && (backToKw cpos (keywordEach [] (F n).env)).all (fun x => x.1.isSome)
      && decide ([b].length + ([] : List Keyword).length + (if ([] : List Keyword).isEmpty then 0 else 1) < 30)) = true := by intro _; rfl)
    (hline : (apos.endLine == cpos.line) = true := by rfl) (he : ∀ n, starEach [b] (F n).env = (false, eval b (F n).env) :: starEach [] (F n).env := by intro _; rfl) (hplain : ∀ n, (backTo cpos (starEach [] (F n).env)).any (·.1) = false := by intro _; rfl) :
    XD F (.Call (.Attribute a "index" apos) [b] [] cpos) Γ (.int (ns.idxOf m : Nat)) := fun H0 G H σ E Q q =>
  ⟨tMG tyRow (rIdxT W.K) (wE F a) (tCons (wE F b) tNil), fun n => by
      have hx := mt_idxT (X := F n)
      rw [hF.K n] at hx
      exact pe_mG (X := F n) ty_row PySem.F.plainAttrs_tuple PySem.F.slot_tuple_index PySem.F.type_tuple_index hx (pe_w (F := F) (e := a) n) (pa_cons (pe_w (F := F) (e := b) n) pa_nil (he n)) (hbase n) (hfew n) hline (he n) (hplain n),
    h H0 G H σ E _ fun v G1 H1 n1 p1 => by
      obtain ⟨l, ob, ev, hq, ho⟩ := dt_row p1
      subst ev
      refine ⟨⟨l, ob, ns, rfl, n1.gh _ _ hq, ho⟩, hb H0 G1 H1 σ (E.mono n1) _ fun y G2 H2 n2 p2 => ?_⟩
      cases p2
      exact ⟨l, ns, m, rfl, rfl, .inl (.inr ⟨ob, n2.hh _ _ (n1.gh _ _ hq)⟩), hm, q _ G2 H2 (n1.trans n2) (.int _)⟩⟩

/-! ### isinstance with a built-in class -/
def Dat.tyN : Dat → String
  | .non => "NoneType"
  | .bl _ => "bool"
  | .int _ => "int"
  | .str _ => "str"
  | .sq true _ => "tuple"
  | .sq false _ => "list"
  | .row _ => "tuple"
  | .obj _ _ => ""
  | .dic _ => ""
theorem dt_tyx {K : PySem.W.Frag} {G : Hp} {v : V} (h : Dt G v d) (hn : d.tyN ≠ "") : TyX K G v (.type d.tyN) := by
  cases h with
  | non => exact .base .non
  | bl b => exact .base (.bl b)
  | int i => exact .base (.int i)
  | str x => exact .base (.str x)
  | @sq l t xs ds hl hd =>
    cases t with
    | true => exact .base (.tup hl)
    | false =>
      rcases hl with z | ⟨ob, z⟩
      · exact .base (.lst z)
      · exact .base (.frz z)
  | row hl hd => exact .fTuple hl
  | obj => exact absurd rfl hn
  | dic => exact absurd rfl hn
theorem x_isi {x : Str} {p px : Pos} (n T : String) (r : Bool) (hm : W.mg "isinstance" = none) (hF : Fam W k N F) (h : XD F a Γ d) (hmT : W.mg x = none) (hty : d.tyN = n := by rfl) (hvT : bootBuiltins x = some (.type T) := by decide +kernel) (hk : kitB n T = some r := by decide +kernel) (hn : n ≠ "" := by decide)
    (hg : ∀ n, Gl (F n) "isinstance" := by intro _; rfl) (hgT : ∀ n, Gl (F n) x := by intro _; rfl) (hxn : x ≠ "__name__" := by decide) (hdb : (x == ("__debug__" : Str)) = false := by decide)
    (he : ∀ n, starEach [a, .Name x px] (F n).env = (false, eval a (F n).env) :: starEach [.Name x px] (F n).env := by intro _; rfl) (he2 : ∀ n, starEach [.Name x px] (F n).env = (false, eval (.Name x px) (F n).env) :: starEach [] (F n).env := by intro _; rfl)
    (hpl : ∀ n, (backTo pos (starEach [.Name x px] (F n).env)).any (·.1) = false := by intro _; rfl) :
    XD F (.Call (.Name "isinstance" p) [a, .Name x px] [] pos) Γ (.bl r) := fun H0 G H σ E Q q =>
  ⟨tCB (rIsi W.K) (tCons (wE F a) (tCons (tC (.ty T)) tNil)), fun n => by
      have hx := call_isi (X := F n)
      rw [hF.K n] at hx
      exact pe_callB hx (hg n) (by rw [hF.mg n]; exact hm) (by decide +kernel) (pa_cons (pe_w (F := F) (e := a) n) (pa_cons (pe_bltn (u := .type T) (v := .ty T) (hgT n) (by rw [hF.mg n]; exact hmT) hvT rfl hxn hdb) pa_nil (he2 n)) (he n)) (by decide) (by decide) (he n) (hpl n),
    h H0 G H σ E _ fun v G1 H1 n1 p1 => ⟨v, .ty T, .type n, .type T, r, rfl, .ty T, by subst hty; exact dt_tyx (dt_mono n1.gh p1) hn, kit_ty hk, q _ G1 H1 n1 (.bl r)⟩⟩

/-! ### own defs -/
/-- what a def promises: R the data that come in and what goes out -/
def SpD (n : Nat) (R : List Dat → Sl → Prop) : Sp := fun vs H Q _ => ∃ G ds s, Ex G H ∧ DtAll G vs ds ∧ ds.length = n ∧ R ds s ∧ ∀ v G' H', Nx G H G' H' → RsOk H v G' H' s → Q v H'
theorem SpD.len {n : Nat} {R : List Dat → Sl → Prop} {vs : List V} {H : Hp} {Q : VK} {E : XK} (h : SpD n R vs H Q E) : vs.length = n := by
  obtain ⟨G, ds, s, _, h1, h2, _⟩ := h
  rw [dta_len h1, h2]
/-- the def that the module's name x holds keeps the promise R, at level k -/
def Fn (W : Wd) (x : Str) (k n : Nat) (R : List Dat → Sl → Prop) : Prop := ∃ f fd ps, W.mg x = some (.ref f) ∧ PySem.W.keepIn W.K (.ref f) = true ∧ Binds W.K fd ps [] ∧ ps.length = n ∧ FnOk W.P W.w W.K W.mg W.base CX0 k f fd ps (SpD n R)
theorem Fn.mono {x : Str} {j m n : Nat} {R : List Dat → Sl → Prop} (h : Fn W x j n R) (hj : j ≤ m) : Fn W x m n R := by
  obtain ⟨f, fd, ps, h1, h2, h3, h4, h5⟩ := h
  exact ⟨f, fd, ps, h1, h2, h3, h4, h5.mono hj⟩
theorem Fn.imp {x : Str} {j n : Nat} {R R' : List Dat → Sl → Prop} (h : Fn W x j n R) (hR : ∀ ds s, R' ds s → R ds s) : Fn W x j n R' := by
  obtain ⟨f, fd, ps, h1, h2, h3, h4, h5⟩ := h
  exact ⟨f, fd, ps, h1, h2, h3, h4, h5.imp fun vs H Q E ⟨G, ds, s, a1, a2, a3, a4, a5⟩ => ⟨G, ds, s, a1, a2, a3, hR ds s a4, a5⟩⟩
/-- f(e, ..) -/
theorem x_call {x : Str} {j n : Nat} {R : List Dat → Sl → Prop} {p : Pos} (hf : Fn W x j n R) (hF : Fam W k N F) (hj : j ≤ k) (ha : XA F (e :: es) Γ ds) (hl : ds.length = n) (hR : R ds s) (hg : ∀ n, Gl (F n) x := by intro _; rfl) (hdb : (x == ("__debug__" : Str)) = false := by decide)
    (he : ∀ n, starEach (e :: es) (F n).env = (false, eval e (F n).env) :: starEach es (F n).env := by intro _; rfl) (hpl : ∀ n, (backTo pos (starEach es (F n).env)).any (·.1) = false := by intro _; rfl) :
    XE F (.Call (.Name x p) (e :: es) [] pos) Γ s := fun H0 G H σ E Q q => by
  obtain ⟨f, fd, ps, h1, h2, h3, h4, h5⟩ := hf
  refine ⟨tCall (SpD n R) [] E0 (wA F (e :: es)), fun i => ?_, ha H0 G H σ E _ fun vs G1 H1 n1 p1 => ?_⟩
  · refine pe_call (CX := CX0) (k := j) (fd := fd) (ps := ps) (ds := []) (f := f) ?_ ((hF.room i).mono hj) (hg i) (by rw [hF.mg i]; exact h1) (by rw [hF.K i]; exact h2) (by rw [hF.K i]; exact h3) .nil pass0 (pa_w i) hdb (he i) (hpl i)
    rw [hF.prog i, hF.w i, hF.K i, hF.mg i, hF.base i]
    exact h5
  · show SpD n R (vs ++ []) H1 Q E0
    rw [List.append_nil]
    exact ⟨G1, ds, s, n1.gh, p1, hl, hR, fun v G2 H2 n2 p2 => q v G2 H2 (n1.trans n2) (rsok_back n1.hh p2)⟩
/-- the slots at a def's entry -/
def gam (N : List Str) (ds : List Dat) : List Sl := ds.map .dat ++ List.replicate (N.length - ds.length) .no
theorem env_start {G H : Hp} {vs : List V} (e : Ex G H) (h : DtAll G vs ds) : Env H G H (L2.start N vs) (gam N ds) := by
  have hl : vs.length = ds.length := dta_len h
  refine ⟨Ex.refl H, e, ?_, fun i s hs => ?_, fun i j s t a h1 h2 o1 o2 h3 h4 => ?_⟩
  · unfold L2.start gam
    rw [List.length_append, List.length_append, List.length_map, List.length_map, List.length_replicate, List.length_replicate, hl]
  · unfold gam at hs
    by_cases c : i < ds.length
    · rw [List.getElem?_append_left (by simpa using c), List.getElem?_map] at hs
      cases hd : ds[i]? with
      | none =>
        rw [hd] at hs
        cases hs
      | some d =>
        rw [hd] at hs
        cases hs
        obtain ⟨v, hv, hdv⟩ := dta_get h hd
        refine .inr ⟨v, ?_, hdv⟩
        unfold L2.start
        rw [List.getElem?_append_left (by rw [List.length_map, hl]; exact c), List.getElem?_map, hv]
        rfl
    · rw [List.getElem?_append_right (by simpa using c), List.getElem?_replicate] at hs
      split at hs
      · cases hs
        exact .inl rfl
      · cases hs
  · unfold gam at h1
    by_cases c : i < ds.length
    · rw [List.getElem?_append_left (by simpa using c), List.getElem?_map] at h1
      cases hd : ds[i]? with
      | none =>
        rw [hd] at h1
        cases h1
      | some d =>
        rw [hd] at h1
        cases h1
        cases o1
    · rw [List.getElem?_append_right (by simpa using c), List.getElem?_replicate] at h1
      split at h1
      · cases h1
        cases o1
      · cases h1
/-- a def's body, in the context of its call; no exception leaves it -/
abbrev bodyF (W : Wd) (N : List Str) (qual : Str) (sc : Scope) (f : Addr) (cdv : Value) (A : Around) (outer : List PySem.Env) (s : Shared) (H : Hp) (E : XK) : Unit → Cx := fun _ => (cxOf CX0 W.P W.w W.K W.mg W.base N qual sc f cdv A outer s H E).nox
/-- how the body ends, and what the call gives *)-/
inductive OutRes : Out → Sl → Prop
  | rt (s : Sl) : OutRes (.rt s) s
  | nx (Γ : List Sl) : OutRes (.nx Γ) (.dat .non)
/-- a def by its body -/
theorem fn_mk {x qual : Str} {st : Stmt} {N ps : List Str} {k n : Nat} {R : List Dat → Sl → Prop} (hd : ∃ f fd, W.mg x = some (.ref f) ∧ FunD W.K x qual (defArgs st) (defBody st) (defScope st) [] [] f fd) (S : FnScope N ps (defScope st)) (hn : ps.length = n)
    (hb : ∀ (kV doc pm : Value) (an : Option Addr) (cdv ct : Value) (us : List Value), us.length = ps.length → bindArgs (PySem.W.fnOf x qual (defArgs st) (defBody st) (defScope st) .none kV doc pm an cdv ct) ⟨us, []⟩ = pure (ps.zip us))
    (body : ∀ (f : Addr) (cdv : Value) (A : Around) (outer : List PySem.Env) (s0 : Shared) (H : Hp) (E : XK), Fam W k N (bodyF W N qual (defScope st) f cdv A outer s0 H E) → ∀ ds r, R ds r → ds.length = n → ∃ o, XSs (bodyF W N qual (defScope st) f cdv A outer s0 H E) (defBody st) (gam N ds) o ∧ OutRes o r) :
    Fn W x (k + 1) n R := by
  obtain ⟨f, fd, hmg, hf⟩ := hd
  refine ⟨f, fd, ps, hmg, hf.kp, hf.bindsN hb, hn, hf.ok S (fun vs H Q E h => h.len.trans hn.symm) fun cdv A outer s H vs Q E hr hsp => ?_⟩
  obtain ⟨G, ds, r, e, hd, hl, hR, hq⟩ := hsp
  have hF : Fam W k N (bodyF W N qual (defScope st) f cdv A outer s H E) := ⟨fun _ => rfl, fun _ => rfl, fun _ => rfl, fun _ => rfl, fun _ => rfl, fun _ => rfl, fun _ => rfl, fun _ => hr, S.nd, fun _ => PassesOwn.never⟩
  obtain ⟨o, hs, ho⟩ := body f cdv A outer s H E hF ds r hR hl
  refine ⟨wSs (bodyF W N qual (defScope st) f cdv A outer s H E) (defBody st), (pss_w (F := bodyF W N qual (defScope st) f cdv A outer s H E) ()).nox, hs G H G H _ (Nx.refl e) (env_start e hd) _ ?_⟩
  cases ho with
  | rt => exact fun v G' H' n _ p => hq v G' H' n p
  | nx Γ => exact fun σ G' H' n _ _ => hq .non G' H' n .non
end
end FX
/-! part FM -/
set_option Elab.async false
set_option linter.all false
set_option maxRecDepth 100000
set_option maxHeartbeats 2000000
/-! Data in plain words: sorting ints, rows, terms; slices; small lemmas. -/
namespace FX
open PySem PySem.Spec PyProof.Rows L2 Evl

/-! ### sorting -/
def sortI (ns : List Int) : List Int := ns.mergeSort fun a b => decide (a ≤ b)
def rowLe (a b : List Int) : Bool := !decide (b < a)
def sortR (rs : List (List Int)) : List (List Int) := rs.mergeSort rowLe
/-- a row with a number -/
abbrev tmD (p : List Int × Int) : Dat := .sq true [tI p.1, .int p.2]
def tmLe (p q : List Int × Int) : Bool := !(decide (q.1 < p.1) || (decide (q.1 = p.1) && decide (q.2 < p.2)))
def sortT (ts : List (List Int × Int)) : List (List Int × Int) := ts.mergeSort tmLe
theorem py_int (i : Int) : (Dat.int i).py = .int i := by rw [Dat.py]
theorem pyAll_ints (ns : List Int) : Dat.pyAll (ns.map .int) = ns.map .int := by
  rw [pyAll_map, List.map_map]
  exact List.map_congr_left fun n _ => py_int n
theorem py_tI (ns : List Int) : (tI ns).py = .tuple (ns.map .int) := by
  rw [Dat.py, pyAll_ints]
  rfl
theorem py_lI (ns : List Int) : (Dat.sq false (ns.map .int)).py = .list (ns.map .int) := by
  rw [Dat.py, pyAll_ints]
  rfl
theorem py_tm (p : List Int × Int) : (tmD p).py = .tuple [.tuple (p.1.map .int), .int p.2] := by
  rw [Dat.py, Dat.pyAll, Dat.pyAll, Dat.pyAll, py_tI, py_int]
  rfl
theorem le_int (a b : Int) : PySem.W.dataLe false Dat.py (.int a) (.int b) = decide (a ≤ b) := by
  show (!PySem.W.dataLt (Dat.py (.int b)) (Dat.py (.int a))) = _
  rw [py_int, py_int, PySem.W.dataLt_int]
  by_cases h : b < a
  · rw [decide_eq_true h, decide_eq_false (by omega)]; rfl
  · rw [decide_eq_false h, decide_eq_true (by omega)]; rfl
theorem le_row (a b : List Int) : PySem.W.dataLe false Dat.py (tI a) (tI b) = rowLe a b := by
  show (!PySem.W.dataLt (Dat.py (tI b)) (Dat.py (tI a))) = _
  rw [py_tI, py_tI, PySem.W.dataLt_tuple]
  show (!PySem.W.rowLt (b.map .int) (a.map .int)) = _
  rw [PySem.W.dataLt_ints]
  rfl
theorem le_tm (p q : List Int × Int) : PySem.W.dataLe false Dat.py (tmD p) (tmD q) = tmLe p q := by
  show (!PySem.W.dataLt (Dat.py (tmD q)) (Dat.py (tmD p))) = _
  rw [py_tm, py_tm, PySem.W.dataLt_pair (by rw [PySem.W.alike]; exact PySem.W.alike_ints _ _) (by simp [PySem.W.alike]), PySem.W.dataLt_int]
  have e1 : PySem.W.dataLt (.tuple (q.1.map .int)) (.tuple (p.1.map .int)) = decide (q.1 < p.1) := (PySem.W.dataLt_tuple _ _).trans (PySem.W.dataLt_ints _ _)
  rw [e1]
  have e2 : PyData.eqv (.tuple (q.1.map .int)) (.tuple (p.1.map .int)) = decide (q.1 = p.1) := by
    rw [PyData.eqv]
    have : ∀ xs ys : List Int, PyData.eqvAll (xs.map .int) (ys.map .int) = decide (xs = ys) := fun xs => by
      induction xs with
      | nil =>
        intro ys
        cases ys <;> simp [PyData.eqvAll]
      | cons x xs ih =>
        intro ys
        cases ys with
        | nil => simp [PyData.eqvAll]
        | cons y ys =>
          rw [List.map_cons, List.map_cons, PyData.eqvAll, ih ys, PyData.eqv, Bool.eq_iff_iff]
          simp
    exact this _ _
  rw [e2, PyData.eqv]
  unfold tmLe
  by_cases h1 : q.1 = p.1
  · rw [decide_eq_true h1, if_pos rfl]
    have h3 : ¬ q.1 < p.1 := by rw [h1]; exact List.lt_irrefl _
    rw [decide_eq_false h3]
    by_cases h2 : q.2 = p.2
    · have h4 : ¬ q.2 < p.2 := by omega
      rw [if_pos (by rw [h2]; exact beq_self_eq_true _), decide_eq_false h4]
      rfl
    · rw [if_neg (by simpa using h2)]
      simp
  · rw [decide_eq_false h1, if_neg Bool.false_ne_true]
    simp
theorem sort_map {α : Type} {f : α → Dat} {le : α → α → Bool} (h : ∀ a b, PySem.W.dataLe false Dat.py (f a) (f b) = le a b) (l : List α) : sortD (l.map f) = (l.mergeSort le).map f :=
  (List.map_mergeSort fun a _ b _ => (h a b).symm).symm
theorem sort_ints (ns : List Int) : sortD (ns.map .int) = (sortI ns).map .int := sort_map le_int ns
theorem sort_rows (rs : List (List Int)) : sortD (rs.map tI) = (sortR rs).map tI := sort_map le_row rs
theorem sort_tms (ts : List (List Int × Int)) : sortD (ts.map tmD) = (sortT ts).map tmD := sort_map le_tm ts
theorem flat_int (n : Int) : (Dat.int n).flat = true := by simp [Dat.flat]
theorem flat_intsD (ns : List Int) : Dat.flatAll (ns.map .int) = true := by
  rw [flatAll_all, List.all_eq_true]
  intro d hd
  obtain ⟨n, _, rfl⟩ := List.mem_map.mp hd
  exact flat_int n
theorem flat_tI (ns : List Int) : (tI ns).flat = true := by rw [Dat.flat]; exact flat_intsD ns
theorem flat_rows (rs : List (List Int)) : Dat.flatAll (rs.map tI) = true := by
  rw [flatAll_all, List.all_eq_true]
  intro d hd
  obtain ⟨n, _, rfl⟩ := List.mem_map.mp hd
  exact flat_tI n
theorem flat_tms (ts : List (List Int × Int)) : Dat.flatAll (ts.map tmD) = true := by
  rw [flatAll_all, List.all_eq_true]
  intro d hd
  obtain ⟨n, _, rfl⟩ := List.mem_map.mp hd
  rw [Dat.flat, Dat.flatAll, Dat.flatAll, Dat.flatAll, flat_tI, flat_int]
  rfl
theorem ok_ints {ns : List Int} (h : ns.length ≤ 100000) : SortOk (ns.map .int) := by
  refine ⟨flat_intsD ns, ?_, .inl ?_, by rw [List.length_map]; exact h, ?_⟩
  · rw [List.map_map]
    exact PySem.W.AllAlike.of fun a b => by simp [py_int, PySem.W.alike]
  · rw [List.map_map]
    exact PySem.W.Sortable.others fun a => by simp [py_int]
  · intro d hd
    obtain ⟨n, _, rfl⟩ := List.mem_map.mp hd
    rw [py_int, PyData.depth]
    omega
theorem ok_rows {rs : List (List Int)} (h : rs.length ≤ 100000) (h2 : (∀ r ∈ rs, r ≠ []) ∨ rs.length < 2) : SortOk (rs.map tI) := by
  refine ⟨flat_rows rs, ?_, ?_, by rw [List.length_map]; exact h, ?_⟩
  · rw [List.map_map]
    exact PySem.W.AllAlike.of fun a b => by
      show PySem.W.alike (Dat.py (tI a)) (Dat.py (tI b)) = true
      rw [py_tI, py_tI, PySem.W.alike]
      exact PySem.W.alike_ints _ _
  · rcases h2 with h2 | h2
    · refine .inl (.inl fun d hd => ?_)
      rw [List.map_map] at hd
      obtain ⟨r, hr, rfl⟩ := List.mem_map.mp hd
      cases r with
      | nil => exact absurd rfl (h2 _ hr)
      | cons x r =>
        refine ⟨.int x, r.map .int, ?_⟩
        show Dat.py (tI (x :: r)) = _
        rw [py_tI]
        rfl
    · exact .inr (by rw [List.length_map]; exact h2)
  · intro d hd
    obtain ⟨n, _, rfl⟩ := List.mem_map.mp hd
    rw [py_tI, PyData.depth, PySem.W.depth_ints]
    omega
theorem ok_tms {ts : List (List Int × Int)} (h : ts.length ≤ 100000) : SortOk (ts.map tmD) := by
  refine ⟨flat_tms ts, ?_, .inl (.inl fun d hd => ?_), by rw [List.length_map]; exact h, ?_⟩
  · rw [List.map_map]
    exact PySem.W.AllAlike.of fun a b => by
      show PySem.W.alike (Dat.py (tmD a)) (Dat.py (tmD b)) = true
      rw [py_tm, py_tm, PySem.W.alike, PySem.W.alikeAll, PySem.W.alikeAll, PySem.W.alikeAll, PySem.W.alike.eq_6, PySem.W.alike_ints]
      simp [PySem.W.alike]
  · rw [List.map_map] at hd
    obtain ⟨r, hr, rfl⟩ := List.mem_map.mp hd
    exact ⟨_, _, py_tm r⟩
  · intro d hd
    obtain ⟨n, _, rfl⟩ := List.mem_map.mp hd
    rw [py_tm, PyData.depth, PyData.depthAll, PyData.depthAll, PyData.depthAll, PyData.depth, PySem.W.depth_ints, PyData.depth]
    simp

/-! ### turns -/
theorem rng_get {lo : Int} {n j : Nat} {d : Dat} (h : (rngD lo n)[j]? = some d) : j < n ∧ d = .int (lo + j) := by
  unfold rngD at h
  rw [List.getElem?_map] at h
  by_cases c : j < n
  · rw [List.getElem?_range c] at h
    exact ⟨c, (Option.some.inj h).symm⟩
  · rw [List.getElem?_eq_none (by rw [List.length_range]; omega)] at h
    cases h
theorem rng_len {lo : Int} {n : Nat} : (rngD lo n).length = n := by simp
theorem map_get {α : Type} {f : α → Dat} {l : List α} {j : Nat} {d : Dat} (h : (l.map f)[j]? = some d) : ∃ x, l[j]? = some x ∧ d = f x := by
  rw [List.getElem?_map] at h
  cases hx : l[j]? with
  | none => rw [hx] at h; cases h
  | some x => rw [hx] at h; exact ⟨x, rfl, (Option.some.inj h).symm⟩
/-- all turns kept, each by its item -/
theorem fm_map {α : Type} (l : List α) (g : α → Dat) : (List.range l.length).filterMap (fun j => l[j]?.map g) = l.map g := by
  induction l with
  | nil => rfl
  | cons x l ih =>
    rw [List.length_cons, List.range_succ_eq_map, List.filterMap_cons]
    simp only [List.getElem?_cons_zero, Option.map_some, List.filterMap_map]
    rw [List.map_cons]
    congr 1
/-- some kept -/
theorem fm_filter {α : Type} (l : List α) (p : α → Bool) (g : α → Dat) : (List.range l.length).filterMap (fun j => l[j]?.bind fun x => if p x = true then some (g x) else none) = (l.filter p).map g := by
  induction l with
  | nil => rfl
  | cons x l ih =>
    rw [List.length_cons, List.range_succ_eq_map, List.filterMap_cons]
    simp only [List.getElem?_cons_zero, Option.bind_some, List.filterMap_map]
    have ih' : List.filterMap ((fun j => (x :: l)[j]?.bind fun x => if p x = true then some (g x) else none) ∘ Nat.succ) (List.range l.length) = (l.filter p).map g := ih
    rw [ih']
    by_cases c : p x = true
    · rw [if_pos c, List.filter_cons, if_pos c, List.map_cons]
    · rw [if_neg c, List.filter_cons, if_neg c]

/-! ### parts -/
theorem cut_to (ds : List Dat) (k : Nat) : cutD ds none (some (k : Int)) = ds.take k := by
  unfold cutD
  rw [HT.sIx_none, HT.sIx_nat, List.drop_zero, Nat.sub_zero]
  rcases Nat.le_total k ds.length with h | h
  · rw [Nat.min_eq_left h]
  · rw [Nat.min_eq_right h, List.take_length, List.take_of_length_le h]
theorem cut_from (ds : List Dat) (k : Nat) : cutD ds (some (k : Int)) none = ds.drop k := by
  unfold cutD
  rw [HT.sIx_none, HT.sIx_nat, List.take_of_length_le (by rw [List.length_drop]; omega)]
  rcases Nat.le_total k ds.length with h | h
  · rw [Nat.min_eq_left h]
  · rw [Nat.min_eq_right h, List.drop_of_length_le (Nat.le_refl _), List.drop_of_length_le h]
theorem take_drop_erase {α : Type} : ∀ (l : List α) (k : Nat), k < l.length → l.take k ++ l.drop (k + 1) = l.eraseIdx k
  | [], _, h => by simp at h
  | x :: l, 0, _ => rfl
  | x :: l, k + 1, h => by
    rw [List.take_succ_cons, List.drop_succ_cons, List.eraseIdx_cons_succ, List.cons_append, take_drop_erase l k (by simpa using h)]
theorem map_erase {α β : Type} (f : α → β) : ∀ (l : List α) (k : Nat), (l.map f).eraseIdx k = (l.eraseIdx k).map f
  | [], _ => rfl
  | x :: l, 0 => rfl
  | x :: l, k + 1 => by
    rw [List.map_cons, List.eraseIdx_cons_succ, List.eraseIdx_cons_succ, List.map_cons, map_erase f l k]

/-! ### comprehensions over what is written as a map -/
section
variable {ι : Type} {W : Wd} {k : Nat} {N : List Str} {F : ι → Cx} {Γ : List Sl} {pos : Pos} {α : Type}
theorem turn_of {F' : ι → Cx} {tg elt : Expr} {ifs : List Expr} {is : List Nat} {l : List α} {enc : α → Dat} {p : α → Bool} {g : α → Dat} (hb : ∀ x ∈ l, ∃ Γ1, XG F' tg is Γ (enc x) Γ1 ∧ XTs F' ifs Γ1 (p x) ∧ (p x = true → XD F' elt Γ1 (g x))) :
    ∀ (j : Nat) (d : Dat), (l.map enc)[j]? = some d → XTurn F' tg elt ifs is Γ d (l[j]?.bind fun x => if p x = true then some (g x) else none) := fun j d hd => by
  obtain ⟨x, hx, rfl⟩ := map_get hd
  obtain ⟨Γ1, h1, h2, h3⟩ := hb x (List.mem_of_getElem? hx)
  refine ⟨Γ1, p x, h1, h2, ?_⟩
  rw [hx]
  cases hp : p x with
  | false => exact .inl ⟨rfl, by simp [hp]⟩
  | true => exact .inr ⟨rfl, g x, by simp [hp], h3 hp⟩
theorem o_lcf {tg iter elt : Expr} {ifs : List Expr} {scope : Scope} {lp : Pos} (is : List Nat) (own : List (Str × Nat)) (sc : Scope) (l : List α) (enc : α → Dat) (p : α → Bool) (g : α → Dat) (hF : Fam W k N F) (hi : XI F tg iter Γ (l.map enc)) (hl : l.length ≤ 100000)
    (hb : Fam W k N (blkF F scope) → ∀ x ∈ l, ∃ Γ1, XG (blkF F scope) tg is (noS Γ (own.map (·.2))) (enc x) Γ1 ∧ XTs (blkF F scope) ifs Γ1 (p x) ∧ (p x = true → XD (blkF F scope) elt Γ1 (g x)))
    (ok : blkC N sc scope own = true := by decide +kernel) (hsc : ∀ n, (F n).env.scope = sc := by intro _; rfl) (hv : ∀ j, j ∈ is → j ∈ own.map (·.2) := by decide)
    (hs : ∀ n x, foldedSetIterable iter (F n).env x = pure x := by intro _ _; rfl) : XE F (.ListComp elt [⟨tg, iter, ifs, 0⟩] scope lp) Γ (.mL ((l.filter p).map g)) :=
  (o_lc own sc _ hF hi (by rw [List.length_map]; exact hl) (fun hB => turn_of (hb hB)) ok hsc hv hs).is (by rw [List.length_map, fm_filter])
theorem o_lcm {tg iter elt : Expr} {scope : Scope} {lp : Pos} (is : List Nat) (own : List (Str × Nat)) (sc : Scope) (l : List α) (enc : α → Dat) (g : α → Dat) (hF : Fam W k N F) (hi : XI F tg iter Γ (l.map enc)) (hl : l.length ≤ 100000)
    (hb : Fam W k N (blkF F scope) → ∀ x ∈ l, ∃ Γ1, XG (blkF F scope) tg is (noS Γ (own.map (·.2))) (enc x) Γ1 ∧ XD (blkF F scope) elt Γ1 (g x))
    (ok : blkC N sc scope own = true := by decide +kernel) (hsc : ∀ n, (F n).env.scope = sc := by intro _; rfl) (hv : ∀ j, j ∈ is → j ∈ own.map (·.2) := by decide)
    (hs : ∀ n x, foldedSetIterable iter (F n).env x = pure x := by intro _ _; rfl) : XE F (.ListComp elt [⟨tg, iter, [], 0⟩] scope lp) Γ (.mL (l.map g)) :=
  (o_lcf is own sc l enc (fun _ => true) g hF hi hl (fun hB x hx => let ⟨Γ1, h1, h2⟩ := hb hB x hx; ⟨Γ1, h1, t_nil, fun _ => h2⟩) ok hsc hv hs).is (by rw [List.filter_eq_self.mpr (fun _ _ => rfl)])
theorem s_setLcf {tg iter elt : Expr} {ifs : List Expr} {scope : Scope} {lp p : Pos} {x : Str} (i : Nat) (is : List Nat) (own : List (Str × Nat)) (sc : Scope) (l : List α) (enc : α → Dat) (pr : α → Bool) (g : α → Dat) (hF : Fam W k N F) (hi : XI F tg iter Γ (l.map enc)) (hl : l.length ≤ 100000)
    (hb : Fam W k N (blkF F scope) → ∀ x ∈ l, ∃ Γ1, XG (blkF F scope) tg is (noS Γ (own.map (·.2))) (enc x) Γ1 ∧ XTs (blkF F scope) ifs Γ1 (pr x) ∧ (pr x = true → XD (blkF F scope) elt Γ1 (g x)))
    (hN : N[i]? = some x := by rfl) (ok : blkC N sc scope own = true := by decide +kernel) (hsc : ∀ n, (F n).env.scope = sc := by intro _; rfl) (hv : ∀ j, j ∈ is → j ∈ own.map (·.2) := by decide)
    (hyl : sc.names.lookup x = some .local := by rfl) (hsw : ∀ n, swapsWith (.ListComp elt [⟨tg, iter, ifs, 0⟩] scope lp) (some (.Name x p)) pos.line (F n).env = pure true := by exact fun _ => sw_true rfl rfl rfl (by decide +kernel))
    (hs : ∀ n x, foldedSetIterable iter (F n).env x = pure x := by intro _ _; rfl) : XS F (.Assign [.Name x p] (.ListComp elt [⟨tg, iter, ifs, 0⟩] scope lp) pos) Γ (.nx (Γ.set i (.mL ((l.filter pr).map g)))) :=
  (s_setLc i own sc _ hF hi (by rw [List.length_map]; exact hl) (fun hB => turn_of (hb hB)) hN ok hsc hv hyl hsw hs).is (by rw [List.length_map, fm_filter])
theorem s_setLcm {tg iter elt : Expr} {scope : Scope} {lp p : Pos} {x : Str} (i : Nat) (is : List Nat) (own : List (Str × Nat)) (sc : Scope) (l : List α) (enc : α → Dat) (g : α → Dat) (hF : Fam W k N F) (hi : XI F tg iter Γ (l.map enc)) (hl : l.length ≤ 100000)
    (hb : Fam W k N (blkF F scope) → ∀ x ∈ l, ∃ Γ1, XG (blkF F scope) tg is (noS Γ (own.map (·.2))) (enc x) Γ1 ∧ XD (blkF F scope) elt Γ1 (g x))
    (hN : N[i]? = some x := by rfl) (ok : blkC N sc scope own = true := by decide +kernel) (hsc : ∀ n, (F n).env.scope = sc := by intro _; rfl) (hv : ∀ j, j ∈ is → j ∈ own.map (·.2) := by decide)
    (hyl : sc.names.lookup x = some .local := by rfl) (hsw : ∀ n, swapsWith (.ListComp elt [⟨tg, iter, [], 0⟩] scope lp) (some (.Name x p)) pos.line (F n).env = pure true := by exact fun _ => sw_true rfl rfl rfl (by decide +kernel))
    (hs : ∀ n x, foldedSetIterable iter (F n).env x = pure x := by intro _ _; rfl) : XS F (.Assign [.Name x p] (.ListComp elt [⟨tg, iter, [], 0⟩] scope lp) pos) Γ (.nx (Γ.set i (.mL (l.map g)))) :=
  (s_setLcf i is own sc l enc (fun _ => true) g hF hi hl (fun hB x hx => let ⟨Γ1, h1, h2⟩ := hb hB x hx; ⟨Γ1, h1, t_nil, fun _ => h2⟩) hN ok hsc hv hyl hsw hs).is (by rw [List.filter_eq_self.mpr (fun _ _ => rfl)])
theorem XQ.is {e : Expr} {t : Bool} {ds ds' : List Dat} (h : XQ W F e Γ t ds) (e' : ds = ds') : XQ W F e Γ t ds' := e' ▸ h
theorem XI.is {tg iter : Expr} {ds ds' : List Dat} (h : XI F tg iter Γ ds) (e : ds = ds') : XI F tg iter Γ ds' := e ▸ h
theorem x_lenM {a : Expr} {t : Bool} {l : List α} {enc : α → Dat} {p : Pos} (hm : W.mg "len" = none) (hF : Fam W k N F) (h : XQ W F a Γ t (l.map enc)) (hg : ∀ n, Gl (F n) "len" := by intro _; rfl) (he : ∀ n, starEach [a] (F n).env = (false, eval a (F n).env) :: starEach [] (F n).env := by intro _; rfl) : XD F (.Call (.Name "len" p) [a] [] pos) Γ (.int (l.length : Nat)) :=
  XD.is (x_len hm hF h hg he) (by rw [List.length_map])
abbrev nD (j : Nat) : Dat := .int (j : Nat)
theorem i_rngN {a : Expr} {tg : Expr} {n : Nat} {p : Pos} (hm : W.mg "range" = none) (hF : Fam W k N F) (h : XD F a Γ (.int (n : Nat))) (hn : n ≤ 100000) (hg : ∀ j, Gl (F j) "range" := by intro _; rfl) (hs : ∀ j, starEach [a] (F j).env = [(false, eval a (F j).env)] := by intro _; rfl) :
    XI F tg (.Call (.Name "range" p) [a] [] pos) Γ ((List.range n).map nD) :=
  (i_rng1 hm hF h (by omega) (by omega) hg hs).is (by
    rw [Int.toNat_natCast]
    exact List.map_congr_left fun j _ => by simp [nD])
/-- range(a, b) of numbers that are not negative -/
theorem i_rngNN {a b : Expr} {tg : Expr} {m n : Nat} {p : Pos} (hm : W.mg "range" = none) (hF : Fam W k N F) (ha : XD F a Γ (.int (m : Nat))) (hb : XD F b Γ (.int (n : Nat))) (h1 : m ≤ 100000) (h2 : n ≤ 100000) (hg : ∀ j, Gl (F j) "range" := by intro _; rfl)
    (hs : ∀ j, starEach [a, b] (F j).env = [(false, eval a (F j).env), (false, eval b (F j).env)] := by intro _; rfl) (hs2 : ∀ j, starEach [b] (F j).env = [(false, eval b (F j).env)] := by intro _; rfl) :
    XI F tg (.Call (.Name "range" p) [a, b] [] pos) Γ ((List.range (n - m)).map fun j => nD (m + j)) :=
  (i_rng2 hm hF ha hb (by omega) (by omega) (by omega) (by omega) hg hs hs2).is (by
    rw [show ((n : Int) - (m : Int)).toNat = n - m by omega]
    exact List.map_congr_left fun j _ => by simp [nD])
/-- return x, whatever x holds -/
theorem s_retV {x : Str} {p : Pos} {s : Sl} (i : Nat) (hF : Fam W k N F) (hs : Γ[i]? = some s) (hn : s ≠ .no) (hN : N[i]? = some x := by rfl) (hv : ∀ j, Vis (F j).env.scope x := by first | exact fun _ => Or.inl rfl | exact fun _ => Or.inr (Or.inl rfl) | exact fun _ => Or.inr (Or.inr rfl))
    (hd : (x == ("__debug__" : Str)) = false := by decide) (hcd : (x == ("__classdict__" : Str)) = false := by decide) : XS F (.Return (some (.Name x p)) pos) Γ (.rt s) := fun G0 H0 G H σ n E D q => by
  obtain ⟨v, h1, h2⟩ := E.get hs hn
  exact ⟨_, fun j => ps_ret (pe_var (i := i) (by rw [hF.names j]; exact hN) (hv j) hd hcd), v, h1, q v G H n (Ex.refl G) h2⟩
theorem atI_getD {l : List Int} {j : Nat} (h : j < l.length) : atI (l.map Dat.int) (j : Int) = some (.int (l.getD j 0)) := by
  refine atI_nat ?_
  rw [List.getElem?_map, List.getElem?_eq_getElem h, List.getD_eq_getElem?_getD, List.getElem?_eq_getElem h]
  rfl
theorem atI_map {f : α → Dat} {l : List α} {j : Nat} {x : α} (h : l[j]? = some x) : atI (l.map f) (j : Int) = some (f x) := by
  refine atI_nat ?_
  rw [List.getElem?_map, h]
  rfl
theorem len_take_map {l : List Int} : (l.map Dat.int).length = l.length := List.length_map _
/-- len(set(t)), t a tuple of ints that are all different -/
theorem x_lenSet {a : Expr} {ns : List Int} {p p2 q : Pos} (hm : W.mg "len" = none) (hm2 : W.mg "set" = none) (hF : Fam W k N F) (h : XQ W F a Γ true (ns.map .int)) (hnd : ns.Nodup) (hl : ns.length ≤ 4000) (hg : ∀ n, Gl (F n) "len" := by intro _; rfl) (hg2 : ∀ n, Gl (F n) "set" := by intro _; rfl)
    (na : ∀ n, starEach [a] (F n).env = (false, eval a (F n).env) :: starEach [] (F n).env := by intro _; rfl) (nb : ∀ n, starEach [.Call (.Name "set" p2) [a] [] q] (F n).env = (false, eval (.Call (.Name "set" p2) [a] [] q) (F n).env) :: starEach [] (F n).env := by intro _; rfl) :
    XD F (.Call (.Name "len" p) [.Call (.Name "set" p2) [a] [] q] [] pos) Γ (.int (ns.length : Nat)) := fun H0 G H σ E Q hq =>
  ⟨tLenSetT W.K (wE F a), fun n => by have := pe_lenSetT (p := p) (p2 := p2) (q := q) (pos := pos) (hg n) (by rw [hF.mg n]; exact hm) (hg2 n) (by rw [hF.mg n]; exact hm2) (pe_w (F := F) (e := a) n) (hF.calm n) (na n) (nb n); rw [hF.K n] at this; exact this,
    h H0 G H σ E _ fun v G1 H1 n1 p1 => by
      obtain ⟨l, ev, hs⟩ := q_ints p1
      exact ⟨l, ns, ev, hs, hnd, hl, hq _ G1 H1 n1 (.int _)⟩⟩
/-- tuple(list of ints), a row -/
theorem x_rowOf {a : Expr} {ns : List Int} {p : Pos} (hm : W.mg "tuple" = none) (hF : Fam W k N F) (h : XQ W F a Γ false (ns.map .int)) (hg : ∀ n, Gl (F n) "tuple" := by intro _; rfl) (he : ∀ n, starEach [a] (F n).env = (false, eval a (F n).env) :: starEach [] (F n).env := by intro _; rfl) : XD F (.Call (.Name "tuple" p) [a] [] pos) Γ (.row ns) :=
  x_t1 hF (fun n => by have := call_row_of (X := F n); rw [hF.K n] at this; exact this) hm (by decide +kernel) h (P1 := QOk W.K false (ns.map .int)) (by
    intro H0 v G H e pd Q q
    obtain ⟨l, ev, hs⟩ := q_ints pd
    exact ⟨l, ns, by rw [ev], hs, fun p o hp ho => q _ _ _ (Nx.new e hp) fun Ha ea => .row upd_same ho⟩) hg (he := he)
theorem dta_rev {G : Hp} {xs : List V} {ds : List Dat} (h : DtAll G xs ds) : DtAll G xs.reverse ds.reverse := dta_reverse h
theorem o_revL {a : Expr} {ds : List Dat} {kk : Nat} {p1 p2 p3 : Pos} (hF : Fam W k N F) (h : XQ W F a Γ false ds) : XE F (.Subscript a (.Slice none none (some (.UnaryOp .USub (.Constant (.int 1) kk p1) p2)) p3) pos) Γ (.mL ds.reverse) := fun H0 G H σ E Q q =>
  ⟨tRevL W.K (wE F a), fun n => by have := pe_revL (X := F n) (k := kk) (p1 := p1) (p2 := p2) (p3 := p3) (pos := pos) (pe_w (F := F) (e := a) n); rw [hF.K n] at this; exact this,
    h H0 G H σ E _ fun v G1 H1 n1 pd => by
      obtain ⟨l, xs, ev, hs, hd⟩ := pd
      exact ⟨l, xs, ev, hs, r1_newL n1.gh (dta_reverse hd) fun w G' H' n' pp => q w G' H' (n1.trans n') (pp H n1.hh)⟩⟩
theorem x_revT {a : Expr} {ds : List Dat} {kk : Nat} {p1 p2 p3 : Pos} (hF : Fam W k N F) (h : XQ W F a Γ true ds) : XD F (.Subscript a (.Slice none none (some (.UnaryOp .USub (.Constant (.int 1) kk p1) p2)) p3) pos) Γ (.sq true ds.reverse) := fun H0 G H σ E Q q =>
  ⟨tRevT W.K (wE F a), fun n => by have := pe_revT (X := F n) (k := kk) (p1 := p1) (p2 := p2) (p3 := p3) (pos := pos) (pe_w (F := F) (e := a) n); rw [hF.K n] at this; exact this,
    h H0 G H σ E _ fun v G1 H1 n1 pd => by
      obtain ⟨l, xs, ev, hs, hd⟩ := pd
      exact ⟨l, xs, ev, hs, r1_newT n1.gh (dta_reverse hd) fun w G' H' n' pp => q w G' H' (n1.trans n') (pp H n1.hh)⟩⟩
theorem i_enumT {a : Expr} {elts : List Expr} {kk : Nat} {p tp : Pos} {ds : List Dat} (hm : W.mg "enumerate" = none) (hF : Fam W k N F) (h : XD F a Γ (.sq true ds)) (hg : ∀ j, Gl (F j) "enumerate" := by intro _; rfl) (hs : ∀ j, starEach [a] (F j).env = [(false, eval a (F j).env)] := by intro _; rfl) :
    XI F (.Tuple elts kk tp) (.Call (.Name "enumerate" p) [a] [] pos) Γ (enumD ds) := fun H0 G H σ E R q =>
  ⟨iEnumT W.K (wA F [a]), fun j => by have := pi_enumT (tpos := tp) (kk := kk) (elts := elts) (p := p) (pos := pos) (hg j) (by rw [hF.mg j]; exact hm) (pa_w (F := F) (es := [a]) j) (hs j); rw [hF.K j] at this; exact this, xa_cons h xa_nil hs H0 G H σ E _ fun vs G1 H1 n1 p => by
    cases p with
    | cons p1 p2 =>
      cases p2
      obtain ⟨l, xs, rfl, hl, hd⟩ := dt_sq p1
      refine ⟨l, xs, rfl, .inl (.inl (n1.gh _ _ hl)), q _ _ _ _ G1 H1 n1 ⟨walk_enumT, ?_, fun H' e => .inl (.inl (e _ _ hl)), fun j G' H' x H'' hj e1 e2 y => ?_⟩⟩
      · rw [enumD, List.length_mapIdx, dta_len hd]
      · obtain ⟨T, u, v, rfl, hT, rfl, hu, hv⟩ := y
        obtain ⟨dd, h1, h2⟩ := dta_back hd hv
        cases hu
        refine ⟨upd G' T (.tup [.int (j : Nat), v]), .sq true [.int (j : Nat), dd], ?_, Nx.new e2 hT, ?_⟩
        · rw [enumD, List.getElem?_mapIdx, h1]
          rfl
        · exact .sq upd_same (.cons (.int _) (.cons (dt_mono (e1.trans (Ex.new (fresh_back e2 hT))) h2) .nil))⟩
theorem i_enum {a : Expr} {elts : List Expr} {kk : Nat} {p tp : Pos} {t : Bool} {ds : List Dat} (hm : W.mg "enumerate" = none) (hF : Fam W k N F) (h : XD F a Γ (.sq t ds)) (hg : ∀ j, Gl (F j) "enumerate" := by intro _; rfl) (hs : ∀ j, starEach [a] (F j).env = [(false, eval a (F j).env)] := by intro _; rfl) :
    XI F (.Tuple elts kk tp) (.Call (.Name "enumerate" p) [a] [] pos) Γ (enumD ds) := by
  cases t with
  | true => exact i_enumT hm hF h hg hs
  | false => exact i_enumL hm hF h hg hs
/-- list | tuple of any sequence -/
theorem rangeN_get {n t : Nat} {d : Dat} (h : ((List.range n).map nD)[t]? = some d) : t < n ∧ d = nD t := by
  obtain ⟨j, hj, rfl⟩ := map_get h
  have h2 := (List.getElem?_eq_some_iff.mp hj).1
  rw [List.length_range] at h2
  rw [List.getElem?_range h2] at hj
  cases hj
  exact ⟨h2, rfl⟩
theorem s_forN {tg iter : Expr} {body : List Stmt} {n : Nat} (is : List Nat) (Γs : Nat → List Sl) (hF : Fam W k N F) (hi : XI F tg iter Γ ((List.range n).map nD)) (h0 : Wk Γ (Γs 0))
    (hb : ∀ t, t < n → ∃ Γ1 o, XG F tg is (Γs t) (nD t) Γ1 ∧ XSs F body Γ1 o ∧ ∃ Γ2, (o = .nx Γ2 ∨ o = .ct Γ2) ∧ Wk Γ2 (Γs (t + 1))) (hs : ∀ n x, foldedSetIterable iter (F n).env x = pure x := by intro _ _; rfl) :
    XS F (.For tg iter body [] pos) Γ (.nx (Γs n)) :=
  XS.is (s_for (is := is) Γs hF hi h0 (fun t d hd => by
    obtain ⟨ht, rfl⟩ := rangeN_get hd
    exact hb t ht) hs) (by rw [List.length_map, List.length_range])
theorem s_forM {tg iter : Expr} {body : List Stmt} {l : List α} {enc : α → Dat} (is : List Nat) (Γs : Nat → List Sl) (hF : Fam W k N F) (hi : XI F tg iter Γ (l.map enc)) (h0 : Wk Γ (Γs 0))
    (hb : ∀ t x, l[t]? = some x → ∃ Γ1 o, XG F tg is (Γs t) (enc x) Γ1 ∧ XSs F body Γ1 o ∧ ∃ Γ2, (o = .nx Γ2 ∨ o = .ct Γ2) ∧ Wk Γ2 (Γs (t + 1))) (hs : ∀ n x, foldedSetIterable iter (F n).env x = pure x := by intro _ _; rfl) :
    XS F (.For tg iter body [] pos) Γ (.nx (Γs l.length)) :=
  XS.is (s_for (is := is) Γs hF hi h0 (fun t d hd => by
    obtain ⟨x, hx, rfl⟩ := map_get hd
    exact hb t x hx) hs) (by rw [List.length_map])
/-- over the items with their places -/
theorem s_forE {tg iter : Expr} {body : List Stmt} {l : List α} {enc : α → Dat} (is : List Nat) (Γs : Nat → List Sl) (hF : Fam W k N F) (hi : XI F tg iter Γ (enumD (l.map enc))) (h0 : Wk Γ (Γs 0))
    (hb : ∀ t x, l[t]? = some x → ∃ Γ1 o, XG F tg is (Γs t) (.sq true [nD t, enc x]) Γ1 ∧ XSs F body Γ1 o ∧ ∃ Γ2, (o = .nx Γ2 ∨ o = .ct Γ2) ∧ Wk Γ2 (Γs (t + 1))) (hs : ∀ n x, foldedSetIterable iter (F n).env x = pure x := by intro _ _; rfl) :
    XS F (.For tg iter body [] pos) Γ (.nx (Γs l.length)) :=
  XS.is (s_for (is := is) Γs hF hi h0 (fun t d hd => by
    rw [enumD, List.getElem?_mapIdx] at hd
    cases hx : (l.map enc)[t]? with
    | none => rw [hx] at hd; cases hd
    | some e =>
      obtain ⟨x, h1, rfl⟩ := map_get hx
      rw [hx] at hd
      cases hd
      exact hb t x h1) hs) (by rw [enumD, List.length_mapIdx, List.length_map])
/-- a, a + 1, .., n of them -/
def irg (a : Int) (n : Nat) : List Int := (List.range n).map fun i => a + (i : Nat)
theorem rgV_irg (a b : Int) : rgV a b = (irg a (b - a).toNat).map V.int := by
  unfold rgV irg
  rw [List.map_map]
  rfl
theorem irg_len (a : Int) (n : Nat) : (irg a n).length = n := by unfold irg; rw [List.length_map, List.length_range]
theorem o_listRg {a : Expr} {n : Nat} {p p2 q : Pos} (hm : W.mg "list" = none) (hm2 : W.mg "range" = none) (hF : Fam W k N F) (h : XD F a Γ (.int (n : Nat))) (hl : n ≤ 100000) (hg : ∀ n, Gl (F n) "list" := by intro _; rfl) (hg2 : ∀ n, Gl (F n) "range" := by intro _; rfl)
    (na : ∀ n, starEach [a] (F n).env = (false, eval a (F n).env) :: starEach [] (F n).env := by intro _; rfl) (nb : ∀ n, starEach [.Call (.Name "range" p2) [a] [] q] (F n).env = (false, eval (.Call (.Name "range" p2) [a] [] q) (F n).env) :: starEach [] (F n).env := by intro _; rfl) :
    XE F (.Call (.Name "list" p) [.Call (.Name "range" p2) [a] [] q] [] pos) Γ (.mL ((irg 0 n).map .int)) := fun H0 G H σ E Q hq =>
  ⟨_, fun i => pe_listRg (hF.calm i) (hg i) (by rw [hF.mg i]; exact hm) (prg_1 (hg2 i) (by rw [hF.mg i]; exact hm2) (pe_w i) (na i)) (nb i), h H0 G H σ E _ fun v G1 H1 n1 p1 => by
    cases p1
    refine ⟨n, rfl, RgOk.of_le (by omega) (by omega) (by omega) (by omega), ?_⟩
    rw [rgV_irg, show ((n : Int) - 0).toNat = n by omega]
    exact r1_newL n1.gh (dta_of_ints _) fun w G' H' n' pp => hq w G' H' (n1.trans n') (pp H n1.hh)⟩
theorem x_tupRg {a : Expr} {n : Nat} {p p2 q : Pos} (hm : W.mg "tuple" = none) (hm2 : W.mg "range" = none) (hF : Fam W k N F) (h : XD F a Γ (.int (n : Nat))) (hl : n ≤ 100000) (hg : ∀ n, Gl (F n) "tuple" := by intro _; rfl) (hg2 : ∀ n, Gl (F n) "range" := by intro _; rfl)
    (na : ∀ n, starEach [a] (F n).env = (false, eval a (F n).env) :: starEach [] (F n).env := by intro _; rfl) (nb : ∀ n, starEach [.Call (.Name "range" p2) [a] [] q] (F n).env = (false, eval (.Call (.Name "range" p2) [a] [] q) (F n).env) :: starEach [] (F n).env := by intro _; rfl) :
    XD F (.Call (.Name "tuple" p) [.Call (.Name "range" p2) [a] [] q] [] pos) Γ (tI (irg 0 n)) := fun H0 G H σ E Q hq =>
  ⟨_, fun i => pe_tupRg (hF.calm i) (hg i) (by rw [hF.mg i]; exact hm) (prg_1 (hg2 i) (by rw [hF.mg i]; exact hm2) (pe_w i) (na i)) (nb i), h H0 G H σ E _ fun v G1 H1 n1 p1 => by
    cases p1
    refine ⟨n, rfl, RgOk.of_le (by omega) (by omega) (by omega) (by omega), ?_⟩
    rw [rgV_irg, show ((n : Int) - 0).toNat = n by omega]
    exact r1_newT n1.gh (dta_of_ints _) fun w G' H' n' pp => hq w G' H' (n1.trans n') (pp H n1.hh)⟩
theorem x_tupRg2 {a b : Expr} {m n : Nat} {p p2 q : Pos} (hm : W.mg "tuple" = none) (hm2 : W.mg "range" = none) (hF : Fam W k N F) (h : XD F a Γ (.int (m : Nat))) (h2 : XD F b Γ (.int (n : Nat))) (hmn : m ≤ n) (hl : n ≤ 100000) (hg : ∀ n, Gl (F n) "tuple" := by intro _; rfl) (hg2 : ∀ n, Gl (F n) "range" := by intro _; rfl)
    (na : ∀ n, starEach [a, b] (F n).env = (false, eval a (F n).env) :: starEach [b] (F n).env := by intro _; rfl) (na2 : ∀ n, starEach [b] (F n).env = (false, eval b (F n).env) :: starEach [] (F n).env := by intro _; rfl)
    (nb : ∀ n, starEach [.Call (.Name "range" p2) [a, b] [] q] (F n).env = (false, eval (.Call (.Name "range" p2) [a, b] [] q) (F n).env) :: starEach [] (F n).env := by intro _; rfl) :
    XD F (.Call (.Name "tuple" p) [.Call (.Name "range" p2) [a, b] [] q] [] pos) Γ (tI (irg m (n - m))) := fun H0 G H σ E Q hq =>
  ⟨_, fun i => pe_tupRg (hF.calm i) (hg i) (by rw [hF.mg i]; exact hm) (prg_2 (hg2 i) (by rw [hF.mg i]; exact hm2) (pe_w i) (pe_w i) (na i) (na2 i) (by rw [na2 i]; rfl)) (nb i), h H0 G H σ E _ fun v G1 H1 n1 p1 => h2 H0 G1 H1 σ (E.mono n1) _ fun v2 G2 H2 n2 p2 => by
    cases p1
    cases p2
    have nn := n1.trans n2
    refine ⟨m, n, rfl, rfl, RgOk.of_le (by omega) (by omega) (by omega) (by omega), ?_⟩
    rw [rgV_irg, show ((n : Int) - m).toNat = n - m by omega]
    exact r1_newT nn.gh (dta_of_ints _) fun w G' H' n' pp => hq w G' H' (nn.trans n') (pp H nn.hh)⟩
/-- a module's number -/
theorem x_globI {x : Str} {i : Int} {t : Tok} (hF : Fam W k N F) (h : W.mg x = some (.int i t)) (hg : ∀ n, Gl (F n) x := by intro _; rfl) (hd : (x == ("__debug__" : Str)) = false := by decide) : XD F (.Name x pos) Γ (.int i) :=
  x_c (fun n => pe_glob (hg n) (by rw [hF.mg n]; exact h) (show RelV (.int i) (.int i t) from ⟨t, rfl⟩) hd) fun _ => .int i
end
end FX
/-! part MathA -/
set_option autoImplicit false
/-! The pivot of the unbeaten rooms, over rankings alone (no program). -/
namespace M84

/-- rankings of the places 0 .. d + v - 1 by d rows; mn k R: the least of R in row k; lst k: the last thing of row k -/
structure Rk (d v : Nat) (ρ : Nat → Int → Nat) (mn : Nat → List Int → Int) (lst : Nat → Int) : Prop where
  vpos : 1 ≤ v
  inj : ∀ k, k < d → ∀ p q : Int, (0 ≤ p ∧ p < (d : Int) + v) → (0 ≤ q ∧ q < (d : Int) + v) → ρ k p = ρ k q → p = q
  own0 : ∀ k, k < d → ρ k ((v : Int) + k) = 0
  thing : ∀ k, k < d → ∀ j, j < d → j ≠ k → ∀ t : Int, 0 ≤ t → t < v → ρ k t < ρ k ((v : Int) + j)
  lstT : ∀ k, k < d → 0 ≤ lst k ∧ lst k < v
  lstM : ∀ k, k < d → ∀ t : Int, 0 ≤ t → t < v → ρ k t ≤ ρ k (lst k)
  mnS : ∀ k, k < d → ∀ R : List Int, R ≠ [] → (∀ p ∈ R, 0 ≤ p ∧ p < (d : Int) + v) → mn k R ∈ R ∧ ∀ q ∈ R, ρ k (mn k R) ≤ ρ k q

section
variable {d v : Nat} {ρ : Nat → Int → Nat} {mn : Nat → List Int → Int} {lst : Nat → Int}

def Pl (d v : Nat) (p : Int) : Prop := 0 ≤ p ∧ p < (d : Int) + v
/-- unbeaten -/
def Unb (d v : Nat) (ρ : Nat → Int → Nat) (R : List Int) : Prop := ∀ p : Int, Pl d v p → ∃ k, k < d ∧ ∀ q ∈ R, ρ k p ≤ ρ k q
def AllPl (d v : Nat) (R : List Int) : Prop := ∀ p ∈ R, Pl d v p

theorem Rk.mn_eq (K : Rk d v ρ mn lst) {k : Nat} (hk : k < d) {R : List Int} (hR : AllPl d v R) {m : Int} (hm : m ∈ R) (h : ∀ q ∈ R, ρ k m ≤ ρ k q) : mn k R = m := by
  have hne : R ≠ [] := fun e => by rw [e] at hm; cases hm
  obtain ⟨a, b⟩ := K.mnS k hk R hne hR
  exact K.inj k hk _ _ (hR _ a) (hR _ hm) (Nat.le_antisymm (b _ hm) (h _ a))
theorem Rk.mn_ext (K : Rk d v ρ mn lst) {k : Nat} (hk : k < d) {R S : List Int} (hR : AllPl d v R) (hne : R ≠ []) (h : ∀ p, p ∈ S ↔ p ∈ R) : mn k S = mn k R := by
  obtain ⟨a, b⟩ := K.mnS k hk R hne hR
  exact K.mn_eq hk (fun p hp => hR p ((h p).mp hp)) ((h _).mpr a) fun q hq => b q ((h q).mp hq)
theorem Unb.ext {R S : List Int} (h : Unb d v ρ R) (e : ∀ p, p ∈ S → p ∈ R) : Unb d v ρ S := fun p hp => by
  obtain ⟨k, hk, q⟩ := h p hp
  exact ⟨k, hk, fun z hz => q z (e z hz)⟩

/-- a list without repeats within another one that is not longer is a rearrangement of it -/
theorem perm_of_sub {α : Type} [DecidableEq α] : ∀ {R L : List α}, R.Nodup → (∀ p ∈ R, p ∈ L) → L.length ≤ R.length → R.Perm L
  | [], L, _, _, hl => by
    have : L = [] := List.eq_nil_of_length_eq_zero (Nat.le_zero.mp hl)
    rw [this]
  | x :: R, L, hn, hs, hl => by
    have hx : x ∈ L := hs x List.mem_cons_self
    have hp : L.Perm (x :: L.erase x) := List.perm_cons_erase hx
    have hlen := hp.length_eq
    obtain ⟨hnx, hn'⟩ := List.nodup_cons.mp hn
    refine (List.Perm.cons x (perm_of_sub hn' (fun p hp' => ?_) ?_)).trans hp.symm
    · have : p ≠ x := fun e => hnx (e ▸ hp')
      exact (List.mem_erase_of_ne this).mpr (hs p (List.mem_cons_of_mem _ hp'))
    · simp only [List.length_cons] at hl hlen
      omega

/-- the row of least places -/
def lr (d : Nat) (mn : Nat → List Int → Int) (R : List Int) : List Int := (List.range d).map fun k => mn k R
theorem lr_len (R : List Int) : (lr d mn R).length = d := by simp [lr]
theorem lr_get {k : Nat} (hk : k < d) (R : List Int) : (lr d mn R)[k]? = some (mn k R) := by
  unfold lr
  rw [List.getElem?_map, List.getElem?_range hk]
  rfl

/-- each place of an unbeaten room is the least one of some row -/
theorem Rk.hit (K : Rk d v ρ mn lst) {R : List Int} (hR : AllPl d v R) (hU : Unb d v ρ R) {p : Int} (hp : p ∈ R) : ∃ k, k < d ∧ mn k R = p := by
  obtain ⟨k, hk, h⟩ := hU p (hR p hp)
  exact ⟨k, hk, K.mn_eq hk hR hp h⟩
theorem Rk.perm (K : Rk d v ρ mn lst) {R : List Int} (hR : AllPl d v R) (hn : R.Nodup) (hl : R.length = d) (hU : Unb d v ρ R) : R.Perm (lr d mn R) := by
  refine perm_of_sub hn (fun p hp => ?_) (by rw [lr_len, hl]; exact Nat.le_refl _)
  obtain ⟨k, hk, e⟩ := K.hit hR hU hp
  exact List.mem_map.mpr ⟨k, List.mem_range.mpr hk, e⟩
theorem Rk.mn_inj (K : Rk d v ρ mn lst) {R : List Int} (hR : AllPl d v R) (hn : R.Nodup) (hl : R.length = d) (hU : Unb d v ρ R) {i j : Nat} (hi : i < d) (hj : j < d) (e : mn i R = mn j R) : i = j := by
  have nd : (lr d mn R).Nodup := (K.perm hR hn hl hU).nodup_iff.mp hn
  have h1 := lr_get (mn := mn) hi R
  have h2 := lr_get (mn := mn) hj R
  rw [e] at h1
  obtain ⟨a1, b1⟩ := List.getElem?_eq_some_iff.mp h1
  obtain ⟨a2, b2⟩ := List.getElem?_eq_some_iff.mp h2
  exact (List.getElem_inj nd).mp (b1.trans b2.symm)

/-- above the least of F in row k -/
def Abv (ρ : Nat → Int → Nat) (k : Nat) (F : List Int) (p : Int) : Prop := ∃ q ∈ F, ρ k q < ρ k p
theorem nAbv {k : Nat} {F : List Int} {p : Int} (h : ¬ Abv ρ k F p) : ∀ q ∈ F, ρ k p ≤ ρ k q := fun q hq => Nat.le_of_not_lt fun z => h ⟨q, hq, z⟩

/-- a place in the rows but j above F, the last one in row j: with F it is unbeaten, if nothing is above F in all rows -/
theorem unb_add {F : List Int} {j : Nat} {y : Int} (hj : j < d) (hF : ¬ ∃ p, Pl d v p ∧ ∀ k, k < d → Abv ρ k F p) (hy : Pl d v y) (hM : ∀ k, k < d → k ≠ j → Abv ρ k F y)
    (hmax : ∀ w, Pl d v w → (∀ k, k < d → k ≠ j → Abv ρ k F w) → ρ j w ≤ ρ j y) : Unb d v ρ (y :: F) ∧ ∀ q ∈ F, ρ j y ≤ ρ j q := by
  have h0 : ¬ Abv ρ j F y := fun z => hF ⟨y, hy, fun k hk => by
    by_cases e : k = j
    · rw [e]; exact z
    · exact hM k hk e⟩
  refine ⟨fun p hp => ?_, nAbv h0⟩
  by_cases c : ∀ k, k < d → k ≠ j → Abv ρ k F p
  · have h1 := hmax p hp c
    exact ⟨j, hj, fun q hq => by
      rcases List.mem_cons.mp hq with e | hq
      · rw [e]; exact h1
      · exact Nat.le_trans h1 (nAbv h0 q hq)⟩
  · have : ∃ k, k < d ∧ k ≠ j ∧ ¬ Abv ρ k F p := Classical.byContradiction fun z => c fun k hk hkj => Classical.byContradiction fun a => z ⟨k, hk, hkj, a⟩
    obtain ⟨k, hk, hkj, a⟩ := this
    refine ⟨k, hk, fun q hq => ?_⟩
    rcases List.mem_cons.mp hq with e | hq
    · rw [e]
      obtain ⟨u, hu, lt⟩ := hM k hk hkj
      exact Nat.le_of_lt (Nat.lt_of_le_of_lt (nAbv a u hu) lt)
    · exact nAbv a q hq

/-- two places that are above F in all rows but one, with F unbeaten both: one place -/
theorem Rk.one (K : Rk d v ρ mn lst) {F : List Int} {j : Nat} {y w : Int} (hj : j < d) (hy : Pl d v y) (hw : Pl d v w) (hMy : ∀ k, k < d → k ≠ j → Abv ρ k F y) (hMw : ∀ k, k < d → k ≠ j → Abv ρ k F w)
    (hUy : Unb d v ρ (y :: F)) (hUw : Unb d v ρ (w :: F)) : w = y := by
  have half : ∀ {a b : Int}, Pl d v a → (∀ k, k < d → k ≠ j → Abv ρ k F a) → Unb d v ρ (b :: F) → ρ j a ≤ ρ j b := by
    intro a b ha hMa hUb
    obtain ⟨k, hk, h⟩ := hUb a ha
    by_cases e : k = j
    · rw [← e]
      exact h b List.mem_cons_self
    · obtain ⟨q, hq, lt⟩ := hMa k hk e
      exact absurd (h q (List.mem_cons_of_mem _ hq)) (Nat.not_le_of_lt lt)
  exact K.inj j hj _ _ hw hy (Nat.le_antisymm (half hw hMw hUy) (half hy hMy hUw))

/-- THE PIVOT where F has a thing -/
theorem Rk.pivot (K : Rk d v ρ mn lst) {R F : List Int} {i j : Nat} {x y : Int} (hR : AllPl d v R) (hn : R.Nodup) (hl : R.length = d) (hU : Unb d v ρ R) (hi : i < d) (hx : mn i R = x)
    (hF : ∀ q, q ∈ F ↔ q ∈ R ∧ q ≠ x) (hne : F ≠ []) (hj : j < d) (hz : mn i F = mn j R) (hy : Pl d v y) (hM : ∀ k, k < d → k ≠ j → Abv ρ k F y)
    (hmax : ∀ w, Pl d v w → (∀ k, k < d → k ≠ j → Abv ρ k F w) → ρ j w ≤ ρ j y) :
    i ≠ j ∧ y ∉ F ∧ y ≠ x ∧ Unb d v ρ (y :: F) ∧ (∀ w, Pl d v w → w ∉ F → Unb d v ρ (w :: F) → w = x ∨ w = y) ∧ mn i (y :: F) = mn j R ∧ mn j (y :: F) = y ∧ ∀ k, k < d → k ≠ i → k ≠ j → mn k (y :: F) = mn k R := by
  have hFR : ∀ q, q ∈ F → q ∈ R := fun q h => ((hF q).mp h).1
  have hFP : AllPl d v F := fun q h => hR q (hFR q h)
  have hRne : R ≠ [] := fun e => by
    cases F with
    | nil => exact hne rfl
    | cons a r =>
      have := hFR a List.mem_cons_self
      rw [e] at this; cases this
  have hxR : x ∈ R := by rw [← hx]; exact (K.mnS i hi R hRne hR).1
  obtain ⟨z1, z2⟩ := K.mnS i hi F hne hFP
  have hij : i ≠ j := fun e => by
    rw [hz, ← e, hx] at z1
    exact ((hF x).mp z1).2 rfl
  have mF : ∀ k, k < d → k ≠ i → mn k R ∈ F := fun k hk hki => (hF _).mpr ⟨(K.mnS k hk R hRne hR).1, fun e => hki (K.mn_inj hR hn hl hU hk hi (e.trans hx.symm))⟩
  have mFk : ∀ k, k < d → k ≠ i → mn k F = mn k R := fun k hk hki => K.mn_eq hk hFP (mF k hk hki) fun q hq => (K.mnS k hk R hRne hR).2 q (hFR q hq)
  -- nothing is above F in all rows
  have hF0 : ¬ ∃ p, Pl d v p ∧ ∀ k, k < d → Abv ρ k F p := fun ⟨p, hp, h⟩ => by
    obtain ⟨k, hk, q⟩ := hU p hp
    obtain ⟨u, hu, lt⟩ := h k hk
    exact absurd (q u (hFR u hu)) (Nat.not_le_of_lt lt)
  obtain ⟨hUy, hyj⟩ := unb_add hj hF0 hy hM hmax
  have hyF : y ∉ F := fun h => by
    obtain ⟨k, hk, e⟩ := K.hit hR hU (hFR y h)
    have hki : k ≠ i := fun q => by
      rw [q, hx] at e
      exact ((hF y).mp h).2 e.symm
    by_cases hkj : k = j
    · -- y is the least of F in row i
      obtain ⟨u, hu, lt⟩ := hM i hi hij
      have h1 := z2 u hu
      rw [hz, ← hkj, e] at h1
      exact absurd h1 (Nat.not_le_of_lt lt)
    · obtain ⟨u, hu, lt⟩ := hM k hk hkj
      have h1 := (K.mnS k hk R hRne hR).2 u (hFR u hu)
      rw [e] at h1
      exact absurd h1 (Nat.not_le_of_lt lt)
  have hyx : y ≠ x := fun e => by
    obtain ⟨u, hu, lt⟩ := hM i hi hij
    have h1 := (K.mnS i hi R hRne hR).2 u (hFR u hu)
    rw [hx, ← e] at h1
    exact absurd h1 (Nat.not_le_of_lt lt)
  have hyP : AllPl d v (y :: F) := fun q hq => by
    rcases List.mem_cons.mp hq with e | hq
    · rw [e]; exact hy
    · exact hFP q hq
  refine ⟨hij, hyF, hyx, hUy, fun w hw hwF hUw => ?_, ?_, ?_, fun k hk hki hkj => ?_⟩
  · -- uniqueness
    have hwP : AllPl d v (w :: F) := fun q hq => by
      rcases List.mem_cons.mp hq with e | hq
      · rw [e]; exact hw
      · exact hFP q hq
    have hFn : (F.eraseDups).length = F.eraseDups.length := rfl
    obtain ⟨k', hk', e'⟩ := K.hit hwP hUw (p := w) List.mem_cons_self
    -- w is the least one in row k'; in any other row it is above F unless it is the least one there, too
    have hmin : ∀ k, k < d → mn k (w :: F) ≠ w → Abv ρ k F w := fun k hk hne' => by
      obtain ⟨a, b⟩ := K.mnS k hk (w :: F) (by simp) hwP
      rcases List.mem_cons.mp a with q | q
      · exact absurd q hne'
      · refine ⟨_, q, Nat.lt_of_le_of_ne (b w List.mem_cons_self) fun z => hne' (K.inj k hk _ _ (hwP _ a) hw z)⟩
    -- each place of F is the least one of a row of its own: the rows where w is least
    by_cases c1 : ∀ k, k < d → k ≠ i → Abv ρ k F w
    · left
      refine K.one hi (hR x hxR) hw (fun k hk hki => ?_) c1 (hU.ext fun p hp => ?_) hUw
      · refine ⟨mn k R, mF k hk hki, Nat.lt_of_le_of_ne ((K.mnS k hk R hRne hR).2 x hxR) fun z => ?_⟩
        have := K.inj k hk _ _ (hR _ (hFR _ (mF k hk hki))) (hR x hxR) z
        exact ((hF _).mp (mF k hk hki)).2 this
      · rcases List.mem_cons.mp hp with q | q
        · rw [q]; exact hxR
        · exact hFR p q
    · right
      refine K.one hj hy hw hM (fun k hk hkj => ?_) hUy hUw
      -- there is a row k0 ≠ i where w is not above F
      have : ∃ k0, k0 < d ∧ k0 ≠ i ∧ ¬ Abv ρ k0 F w := Classical.byContradiction fun z => c1 fun k hk hki => Classical.byContradiction fun a => z ⟨k, hk, hki, a⟩
      obtain ⟨k0, hk0, hk0i, na⟩ := this
      have hw0 : ∀ q ∈ F, ρ k0 w ≤ ρ k0 q := nAbv na
      -- the least of F in row k0 must be the least one of another row, which is i or j; so k0 = j
      have hm0 : mn k0 R ∈ F := mF k0 hk0 hk0i
      obtain ⟨k1, hk1, e1⟩ := K.hit hwP hUw (List.mem_cons_of_mem w hm0)
      have hk10 : k1 ≠ k0 := fun e => by
        have h1 := K.mn_eq hk0 hwP (m := w) List.mem_cons_self fun q hq => by
          rcases List.mem_cons.mp hq with a | a
          · rw [a]; exact Nat.le_refl _
          · exact hw0 q a
        rw [e, h1] at e1
        rw [← e1] at hm0
        exact hwF hm0
      have e2 : mn k1 F = mn k0 R := by
        rw [← e1]
        exact K.mn_eq hk1 hFP (by rw [e1]; exact hm0) fun q hq => (K.mnS k1 hk1 (w :: F) (by simp) hwP).2 q (List.mem_cons_of_mem _ hq)
      have hk1i : k1 = i := Classical.byContradiction fun h1 => by
        rw [mFk k1 hk1 h1] at e2
        exact hk10 (K.mn_inj hR hn hl hU hk1 hk0 e2)
      have hk0j : k0 = j := by
        rw [hk1i, hz] at e2
        exact (K.mn_inj hR hn hl hU hj hk0 e2).symm
      -- now in row k ≠ j: if w were not above F there, k would have the same right
      refine Classical.byContradiction fun nk => ?_
      have hwk : ∀ q ∈ F, ρ k w ≤ ρ k q := nAbv nk
      by_cases hki : k = i
      · -- rows i and j both have w as the least: z = mn j R has no row
        have h1 := K.mn_eq hk1 hwP (m := w) List.mem_cons_self fun q hq => by
          rcases List.mem_cons.mp hq with a | a
          · rw [a]; exact Nat.le_refl _
          · rw [hk1i, ← hki]; exact hwk q a
        rw [h1] at e1
        rw [← e1] at hm0
        exact hwF hm0
      · have hmk : mn k R ∈ F := mF k hk hki
        obtain ⟨k2, hk2, e3⟩ := K.hit hwP hUw (List.mem_cons_of_mem w hmk)
        have hk2k : k2 ≠ k := fun e => by
          have h1 := K.mn_eq hk hwP (m := w) List.mem_cons_self fun q hq => by
            rcases List.mem_cons.mp hq with a | a
            · rw [a]; exact Nat.le_refl _
            · exact hwk q a
          rw [e, h1] at e3
          rw [← e3] at hmk
          exact hwF hmk
        have e4 : mn k2 F = mn k R := by
          rw [← e3]
          exact K.mn_eq hk2 hFP (by rw [e3]; exact hmk) fun q hq => (K.mnS k2 hk2 (w :: F) (by simp) hwP).2 q (List.mem_cons_of_mem _ hq)
        have hk2i : k2 = i := Classical.byContradiction fun h1 => by
          rw [mFk k2 hk2 h1] at e4
          exact hk2k (K.mn_inj hR hn hl hU hk2 hk e4)
        rw [hk2i, hz] at e4
        exact hkj (K.mn_inj hR hn hl hU hj hk e4).symm
  · rw [← hz]
    exact K.mn_eq hi hyP (List.mem_cons_of_mem _ z1) fun q hq => by
      rcases List.mem_cons.mp hq with e | hq
      · rw [e]
        obtain ⟨u, hu, lt⟩ := hM i hi hij
        exact Nat.le_of_lt (Nat.lt_of_le_of_lt (z2 u hu) lt)
      · exact z2 q hq
  · exact K.mn_eq hj hyP List.mem_cons_self fun q hq => by
      rcases List.mem_cons.mp hq with e | hq
      · rw [e]; exact Nat.le_refl _
      · exact hyj q hq
  · rw [← mFk k hk hki]
    obtain ⟨a, b⟩ := K.mnS k hk F hne hFP
    exact K.mn_eq hk hyP (List.mem_cons_of_mem _ a) fun q hq => by
      rcases List.mem_cons.mp hq with e | hq
      · rw [e]
        obtain ⟨u, hu, lt⟩ := hM k hk hkj
        exact Nat.le_of_lt (Nat.lt_of_le_of_lt (b u hu) lt)
      · exact b q hq

/-- v + j is above F in all rows but j, if F has a thing -/
theorem Rk.own_above (K : Rk d v ρ mn lst) {F : List Int} {t : Int} (ht : t ∈ F) (h0 : 0 ≤ t) (h1 : t < v) {j : Nat} (hj : j < d) : ∀ k, k < d → k ≠ j → Abv ρ k F ((v : Int) + j) :=
  fun k hk hkj => ⟨t, ht, K.thing k hk j hj (Ne.symm hkj) t h0 h1⟩

/-- the own places but one: with the last thing of that row it is unbeaten, and with nothing else; the own places are beaten -/
theorem Rk.own_pivot (K : Rk d v ρ mn lst) {F : List Int} {i : Nat} (hi : i < d) (hF : ∀ q, q ∈ F ↔ ∃ k, k < d ∧ k ≠ i ∧ q = (v : Int) + k) :
    Unb d v ρ (lst i :: F) ∧ (∀ w, Pl d v w → w ∉ F → Unb d v ρ (w :: F) → w = lst i) ∧ mn i (lst i :: F) = lst i ∧ (∀ k, k < d → k ≠ i → mn k (lst i :: F) = (v : Int) + k) := by
  obtain ⟨l0, l1⟩ := K.lstT i hi
  have hP : AllPl d v (lst i :: F) := fun q hq => by
    rcases List.mem_cons.mp hq with e | hq
    · rw [e]; unfold Pl; omega
    · obtain ⟨k, hk, _, e⟩ := (hF q).mp hq
      rw [e]; unfold Pl; omega
  have first : ∀ p, Pl d v p → (∀ k, k < d → k ≠ i → p ≠ (v : Int) + k) → ∀ q ∈ lst i :: F, ρ i p ≤ ρ i q := by
    intro p hp hno q hq
    by_cases hpt : p < v
    · rcases List.mem_cons.mp hq with e | hq
      · rw [e]; exact K.lstM i hi p hp.1 hpt
      · obtain ⟨k, hk, hki, e⟩ := (hF q).mp hq
        rw [e]
        exact Nat.le_of_lt (K.thing i hi k hk hki p hp.1 hpt)
    · have e : p = (v : Int) + i := by
        have h2 := hp.2
        obtain ⟨m, hm⟩ : ∃ m : Nat, p = (v : Int) + m := ⟨(p - v).toNat, by omega⟩
        by_cases e : m = i
        · rw [hm, e]
        · exact absurd hm (hno m (by omega) e)
      rw [e, K.own0 i hi]
      exact Nat.zero_le _
  refine ⟨fun p hp => ?_, fun w hw hwF hU => ?_, ?_, fun k hk hki => ?_⟩
  · by_cases c : ∃ k, k < d ∧ k ≠ i ∧ p = (v : Int) + k
    · obtain ⟨k, hk, _, e⟩ := c
      exact ⟨k, hk, fun q _ => by rw [e, K.own0 k hk]; exact Nat.zero_le _⟩
    · exact ⟨i, hi, first p hp fun k hk hki e => c ⟨k, hk, hki, e⟩⟩
  · -- w is a thing: the own places are beaten by a thing
    obtain ⟨k, hk, h⟩ := hU (lst i) ⟨l0, by omega⟩
    have hki : k = i := Classical.byContradiction fun hki => by
      have h1 := h ((v : Int) + k) (List.mem_cons_of_mem _ ((hF _).mpr ⟨k, hk, hki, rfl⟩))
      rw [K.own0 k hk] at h1
      have e : lst i = (v : Int) + k := K.inj k hk _ _ ⟨l0, by omega⟩ ⟨by omega, by omega⟩ (by rw [K.own0 k hk]; exact Nat.le_zero.mp h1)
      omega
    have h1 := h w List.mem_cons_self
    rw [hki] at h1
    by_cases hwt : w < v
    · exact K.inj i hi _ _ hw ⟨l0, by omega⟩ (Nat.le_antisymm (K.lstM i hi w hw.1 hwt) h1)
    · have e : w = (v : Int) + i := by
        have h2 := hw.2
        obtain ⟨m, hm⟩ : ∃ m : Nat, w = (v : Int) + m := ⟨(w - v).toNat, by omega⟩
        by_cases e : m = i
        · rw [hm, e]
        · exact absurd ((hF w).mpr ⟨m, by omega, e, hm⟩) hwF
      rw [e, K.own0 i hi] at h1
      have e2 : lst i = (v : Int) + i := K.inj i hi _ _ ⟨l0, by omega⟩ ⟨by omega, by omega⟩ (by rw [K.own0 i hi]; exact Nat.le_zero.mp h1)
      omega
  · exact K.mn_eq hi hP List.mem_cons_self (first (lst i) ⟨l0, by omega⟩ fun k _ _ e => by omega)
  · exact K.mn_eq hk hP (List.mem_cons_of_mem _ ((hF _).mpr ⟨k, hk, hki, rfl⟩)) fun q _ => by rw [K.own0 k hk]; exact Nat.zero_le _
/-- the own places are beaten -/
theorem Rk.own_beaten (K : Rk d v ρ mn lst) {O : List Int} (hO : ∀ k, k < d → (v : Int) + k ∈ O) : ¬ Unb d v ρ O := fun hU => by
  have hv := K.vpos
  obtain ⟨k, hk, h⟩ := hU 0 ⟨by omega, by omega⟩
  have h1 := h _ (hO k hk)
  rw [K.own0 k hk] at h1
  have e : (0 : Int) = (v : Int) + k := K.inj k hk _ _ ⟨by omega, by omega⟩ ⟨by omega, by omega⟩ (by rw [K.own0 k hk]; exact Nat.le_zero.mp h1)
  omega
end
end M84
/-! part MathB -/
set_option autoImplicit false
/-! Order signs of lists of ints, by parity of the pairs that stand in descending order. -/
namespace M84

def odd (n : Nat) : Bool := n % 2 == 1
theorem odd_add (a b : Nat) : odd (a + b) = (odd a ^^ odd b) := by
  unfold odd
  have ha : a % 2 = 0 ∨ a % 2 = 1 := by omega
  have hb : b % 2 = 0 ∨ b % 2 = 1 := by omega
  have e : (a + b) % 2 = (a % 2 + b % 2) % 2 := by omega
  rw [e]
  rcases ha with h | h <;> rcases hb with h' | h' <;> rw [h, h'] <;> rfl
theorem odd_succ (a : Nat) : odd (a + 1) = !odd a := by
  rw [odd_add]
  cases odd a <;> rfl
theorem odd_zero : odd 0 = false := rfl

/-- how many of l are below x; above x -/
def below (x : Int) (l : List Int) : Nat := l.countP fun y => decide (y < x)
def over (x : Int) (l : List Int) : Nat := l.countP fun y => decide (x < y)
/-- whether the number of pairs in descending order is odd -/
def sgb : List Int → Bool
  | [] => false
  | x :: l => odd (below x l) ^^ sgb l
/-- 1 or -1 -/
def pm (b : Bool) : Int := if b then -1 else 1
theorem pm_mul (a b : Bool) : pm a * pm b = pm (a ^^ b) := by cases a <;> cases b <;> rfl
theorem pm_neg (a : Bool) : -pm a = pm (!a) := by cases a <;> rfl
theorem pm_add_not (a b : Bool) (h : a = !b) : pm a + pm b = 0 := by subst h; cases b <;> rfl
theorem pm_ne (a : Bool) : pm a ≠ 0 := by cases a <;> decide
def sg (l : List Int) : Int := pm (sgb l)

theorem below_cons (x y : Int) (l : List Int) : below x (y :: l) = below x l + (if y < x then 1 else 0) := by
  unfold below
  rw [List.countP_cons]
  by_cases h : y < x <;> simp [h]
theorem over_cons (x y : Int) (l : List Int) : over x (y :: l) = over x l + (if x < y then 1 else 0) := by
  unfold over
  rw [List.countP_cons]
  by_cases h : x < y <;> simp [h]
theorem below_append (x : Int) (l m : List Int) : below x (l ++ m) = below x l + below x m := List.countP_append
theorem over_append (x : Int) (l m : List Int) : over x (l ++ m) = over x l + over x m := List.countP_append
theorem below_perm {x : Int} {l m : List Int} (h : l.Perm m) : below x l = below x m := h.countP_eq _

/-- a new last item turns the sign by those that are over it -/
theorem sgb_snoc : ∀ (l : List Int) (x : Int), sgb (l ++ [x]) = (sgb l ^^ odd (over x l))
  | [], x => rfl
  | y :: l, x => by
    show (odd (below y (l ++ [x])) ^^ sgb (l ++ [x])) = ((odd (below y l) ^^ sgb l) ^^ odd (over x (y :: l)))
    rw [sgb_snoc l x, below_append, over_cons, odd_add, odd_add]
    have e : below y [x] = if x < y then 1 else 0 := by
      rw [below_cons]
      show 0 + _ = _
      omega
    rw [e]
    generalize odd (below y l) = a
    generalize sgb l = b
    generalize odd (over x l) = c
    generalize odd (if x < y then 1 else 0) = f
    cases a <;> cases b <;> cases c <;> cases f <;> rfl

theorem erase_perm {α : Type} : ∀ {l : List α} {i : Nat} {x : α}, l[i]? = some x → l.Perm (x :: l.eraseIdx i)
  | [], i, x, h => by simp at h
  | y :: l, 0, x, h => by
    have e : y = x := Option.some.inj (by simpa using h)
    subst e
    exact List.Perm.refl _
  | y :: l, i + 1, x, h => by
    have h' : l[i]? = some x := by simpa using h
    exact ((erase_perm h').cons y).trans (List.Perm.swap x y _)
/-- an item taken out: the sign turns by its index and by its place among all -/
theorem sgb_erase : ∀ (L : List Int) (i : Nat) (x : Int), L.Nodup → L[i]? = some x → (sgb L ^^ odd (below x L)) = (odd i ^^ sgb (L.eraseIdx i))
  | [], i, x, _, h => by simp at h
  | y :: l, 0, x, hn, h => by
    have e : y = x := Option.some.inj (by simpa using h)
    subst e
    show ((odd (below y l) ^^ sgb l) ^^ odd (below y (y :: l))) = (odd 0 ^^ sgb l)
    rw [below_cons, if_neg (Int.lt_irrefl y), Nat.add_zero, odd_zero]
    generalize odd (below y l) = a
    generalize sgb l = b
    cases a <;> cases b <;> rfl
  | y :: l, i + 1, x, hn, h => by
    have h' : l[i]? = some x := by simpa using h
    obtain ⟨hny, hn'⟩ := List.nodup_cons.mp hn
    have hxl : x ∈ l := List.mem_of_getElem? h'
    have hyx : y ≠ x := fun e => hny (e ▸ hxl)
    have ih := sgb_erase l i x hn' h'
    show ((odd (below y l) ^^ sgb l) ^^ odd (below x (y :: l))) = (odd (i + 1) ^^ (odd (below y (l.eraseIdx i)) ^^ sgb (l.eraseIdx i)))
    have e1 : below y l = below y (l.eraseIdx i) + (if x < y then 1 else 0) := by
      rw [below_perm (erase_perm h'), below_cons]
    rw [below_cons, e1, odd_add, odd_add, odd_succ]
    have e2 : odd (if x < y then 1 else 0) = !odd (if y < x then 1 else 0) := by
      by_cases c : x < y
      · rw [if_pos c, if_neg (by omega)]; rfl
      · rw [if_neg c, if_pos (by omega)]; rfl
    rw [e2]
    have ih' : sgb l = (odd (below x l) ^^ (odd i ^^ sgb (l.eraseIdx i))) := by
      rw [← ih]
      generalize odd (below x l) = a
      generalize sgb l = b
      cases a <;> cases b <;> rfl
    rw [ih']
    generalize odd (below x l) = a
    generalize odd i = b
    generalize sgb (l.eraseIdx i) = c
    generalize odd (below y (l.eraseIdx i)) = e
    generalize odd (if y < x then 1 else 0) = f
    cases a <;> cases b <;> cases c <;> cases e <;> cases f <;> rfl

/-- two lists from which the items at a and b leave one and the same list: z moved from a to b -/
theorem sgb_moved {A B : List Int} {a b : Nat} {z : Int} (hA : A.Nodup) (hB : B.Nodup) (ha : A[a]? = some z) (hb : B[b]? = some z) (he : A.eraseIdx a = B.eraseIdx b) : (sgb A ^^ odd a) = (sgb B ^^ odd b) := by
  have h1 := sgb_erase A a z hA ha
  have h2 := sgb_erase B b z hB hb
  have hp : A.Perm B := by
    have p1 := erase_perm ha
    rw [he] at p1
    exact p1.trans (erase_perm hb).symm
  rw [below_perm hp, he] at h1
  revert h1 h2
  generalize sgb A = x1
  generalize sgb B = x2
  generalize odd a = x3
  generalize odd b = x4
  generalize odd (below z B) = x5
  generalize sgb (B.eraseIdx b) = x6
  intro h1 h2
  cases x1 <;> cases x2 <;> cases x3 <;> cases x4 <;> cases x5 <;> cases x6 <;> simp_all

/-- ascending lists have the sign 1 -/
theorem below_zero {x : Int} : ∀ {l : List Int}, (∀ y ∈ l, x < y) → below x l = 0
  | [], _ => rfl
  | y :: l, h => by
    rw [below_cons, below_zero fun z hz => h z (List.mem_cons_of_mem _ hz), if_neg (by have := h y List.mem_cons_self; omega)]
theorem sgb_asc : ∀ {l : List Int}, l.Pairwise (· < ·) → sgb l = false
  | [], _ => rfl
  | x :: l, h => by
    obtain ⟨h1, h2⟩ := List.pairwise_cons.mp h
    show (odd (below x l) ^^ sgb l) = false
    rw [below_zero h1, sgb_asc h2]
    rfl
/-- in an ascending list the index is the number of items below -/
theorem below_asc : ∀ {l : List Int} {p : Nat} {x : Int}, l.Pairwise (· < ·) → l[p]? = some x → below x l = p
  | [], p, x, _, h => by simp at h
  | y :: l, 0, x, h, e => by
    have e' : y = x := Option.some.inj (by simpa using e)
    subst e'
    rw [below_cons, below_zero (List.pairwise_cons.mp h).1, if_neg (Int.lt_irrefl y)]
  | y :: l, p + 1, x, h, e => by
    have e' : l[p]? = some x := by simpa using e
    obtain ⟨h1, h2⟩ := List.pairwise_cons.mp h
    rw [below_cons, below_asc h2 e', if_pos (h1 x (List.mem_of_getElem? e'))]

/-! ### the program's loop -/
/-- for j in range(k): if row[j] > row[k]: sign = -sign -/
def sgIn (row : List Int) (k : Nat) (s : Int) : Nat → Int
  | 0 => s
  | j + 1 => if row.getD k 0 < row.getD j 0 then -(sgIn row k s j) else sgIn row k s j
/-- for k in range(len(row)) -/
def sgOut (row : List Int) : Nat → Int
  | 0 => 1
  | k + 1 => sgIn row k (sgOut row k) k
theorem sgIn_eq (row : List Int) (k : Nat) (b : Bool) : ∀ j, j ≤ row.length → sgIn row k (pm b) j = pm (b ^^ odd (over (row.getD k 0) (row.take j)))
  | 0, _ => by
    show pm b = _
    rw [List.take_zero]
    show pm b = pm (b ^^ false)
    cases b <;> rfl
  | j + 1, hj => by
    have hjl : j < row.length := hj
    show (if row.getD k 0 < row.getD j 0 then -(sgIn row k (pm b) j) else sgIn row k (pm b) j) = _
    rw [sgIn_eq row k b j (Nat.le_of_lt hjl), List.take_succ_eq_append_getElem hjl, over_append, odd_add]
    have e : over (row.getD k 0) [row[j]] = if row.getD k 0 < row[j] then 1 else 0 := by
      rw [over_cons]
      show 0 + _ = _
      omega
    have e2 : row.getD j 0 = row[j] := by rw [List.getD_eq_getElem?_getD, List.getElem?_eq_getElem hjl]; rfl
    rw [e, e2]
    by_cases c : row.getD k 0 < row[j]
    · rw [if_pos c, if_pos c, pm_neg]
      congr 1
      generalize odd (over (row.getD k 0) (row.take j)) = a
      cases a <;> cases b <;> rfl
    · rw [if_neg c, if_neg c]
      congr 1
      generalize odd (over (row.getD k 0) (row.take j)) = a
      cases a <;> cases b <;> rfl
theorem sgOut_eq (row : List Int) : ∀ k, k ≤ row.length → sgOut row k = sg (row.take k)
  | 0, _ => by rw [List.take_zero]; rfl
  | k + 1, hk => by
    have hkl : k < row.length := hk
    show sgIn row k (sgOut row k) k = _
    rw [sgOut_eq row k (Nat.le_of_lt hkl)]
    unfold sg
    rw [sgIn_eq row k _ k (Nat.le_of_lt hkl), List.take_succ_eq_append_getElem hkl, sgb_snoc]
    have e2 : row.getD k 0 = row[k] := by rw [List.getD_eq_getElem?_getD, List.getElem?_eq_getElem hkl]; rfl
    rw [e2]
theorem sgOut_all (row : List Int) : sgOut row row.length = sg row := by
  rw [sgOut_eq row _ (Nat.le_refl _), List.take_length]
end M84
/-! part D1 -/
set_option Elab.async false
set_option linter.all false
set_option maxRecDepth 100000
set_option maxHeartbeats 2000000
namespace K84
open PySem PySem.Spec PyProof.Rows L2 Evl FX
def top (i : Nat) : Stmt := PySem.Challenge.pw_oppositesmeet_k84_unbeaten_books_and_the.main.body.getD i (.Pass ⟨0, 0, 0, 0⟩)
abbrev HasDef (W : Wd) (x : Str) (i : Nat) : Prop := ∃ f fd, W.mg x = some (.ref f) ∧ FunD W.K x x (defArgs (top i)) (defBody (top i)) (defScope (top i)) [] [] f fd
structure Bi (W : Wd) : Prop where
  len : W.mg "len" = none
  range : W.mg "range" = none
  tuple : W.mg "tuple" = none
  list : W.mg "list" = none
  sorted : W.mg "sorted" = none
  set : W.mg "set" = none
  abs : W.mg "abs" = none
  int : W.mg "int" = none
  min : W.mg "min" = none
  sum : W.mg "sum" = none
  isinstance : W.mg "isinstance" = none
  repr : W.mg "repr" = none
  enumerate : W.mg "enumerate" = none
  bool : W.mg "bool" = none
  str : W.mg "str" = none
variable {W : Wd}

theorem sc_faces : FnScope ["room", "k"] ["room"] (defScope (top 9)) := ⟨rfl, rfl, rfl, by decide +kernel, rfl, by decide +kernel, by decide +kernel⟩
def fcs (r : List Int) : List (List Int) := (List.range r.length).map r.eraseIdx
def Rfaces : List Dat → Sl → Prop := fun ds s => ∃ r : List Int, ds = [tI r] ∧ r.length ≤ 1000 ∧ s = .mL ((fcs r).map tI)
theorem ok_faces (T : Bi W) (D : HasDef W "faces" 9) : Fn W "faces" 1 1 Rfaces := by
  refine fn_mk D sc_faces rfl (fun _ _ _ _ _ _ us hl => match us, hl with | [_], _ => rfl) fun f cdv A outer s0 H E hF ds r hR _ => ?_
  obtain ⟨r, rfl, hl, rfl⟩ := hR
  refine ⟨_, ss_one (s_ret (XE.is (o_lcm [1] [("k", 1)] (defScope (top 9)) (List.range r.length) nD (fun j => tI (r.eraseIdx j)) hF (i_rngN T.range hF (x_lenM T.len hF (q_of (xv 0 hF))) (by omega)) (by rw [List.length_range]; omega) fun hB j hj => ?_) ?_)), .rt _⟩
  · have hj' : j < r.length := List.mem_range.mp hj
    refine ⟨_, g_name 1 hB, XD.is (x_catT hB (x_slT hB (xv 0 hB) o_none (o_some (xv 1 hB))) (x_slT hB (xv 0 hB) (o_some (x_add (xv 1 hB) x_int)) o_none) ?_) ?_⟩
    · have h1 : ∀ (lo hi : Option Int), (FX.cutD (r.map Dat.int) lo hi).length ≤ 1000 := fun lo hi => by
        unfold FX.cutD
        rw [List.length_take, List.length_drop, List.length_map]
        omega
      have := h1 none (some (j : Int))
      have := h1 (some ((j : Int) + 1)) none
      omega
    · rw [cut_to, show ((j : Nat) : Int) + 1 = ((j + 1 : Nat) : Int) by omega, cut_from, take_drop_erase _ _ (by rw [List.length_map]; exact hj'), map_erase]
  · unfold fcs
    rw [List.map_map]
    rfl
theorem sc_without : FnScope ["room", "place", "p"] ["room", "place"] (defScope (top 10)) := ⟨rfl, rfl, rfl, by decide +kernel, rfl, by decide +kernel, by decide +kernel⟩
def Rwithout : List Dat → Sl → Prop := fun ds s => ∃ (r : List Int) (p : Int), ds = [tI r, .int p] ∧ r.length ≤ 1000 ∧ s = .dat (tI (r.filter fun x => decide (x ≠ p)))
theorem ok_without (T : Bi W) (D : HasDef W "without" 10) : Fn W "without" 1 2 Rwithout := by
  refine fn_mk D sc_without rfl (fun _ _ _ _ _ _ us hl => match us, hl with | [_, _], _ => rfl) fun f cdv A outer s0 H E hF ds r hR _ => ?_
  obtain ⟨r, p, rfl, hl, rfl⟩ := hR
  refine ⟨_, ss_one (s_ret (x_tupL T.tuple hF (q_mL (o_lcf [2] [("p", 2)] (defScope (top 10)) r .int (fun x => decide (x ≠ p)) .int hF (i_sq hF (xv 0 hF)) (by omega) fun hB x hx => ⟨_, g_name 2 hB, t_one (b_cm (cm_ne (xv 2 hB) (xv 1 hB))), fun _ => xv 2 hB⟩)))), .rt _⟩
theorem sc_exchanged : FnScope ["room", "leaving", "entering", "p"] ["room", "leaving", "entering"] (defScope (top 11)) := ⟨rfl, rfl, rfl, by decide +kernel, rfl, by decide +kernel, by decide +kernel⟩
def Rexchanged : List Dat → Sl → Prop := fun ds s => ∃ (r : List Int) (p e : Int), ds = [tI r, .int p, .int e] ∧ r.length ≤ 1000 ∧ s = .dat (tI (sortI (r.filter (fun x => decide (x ≠ p)) ++ [e])))
theorem ok_exchanged (T : Bi W) (D : HasDef W "exchanged" 11) : Fn W "exchanged" 1 3 Rexchanged := by
  refine fn_mk D sc_exchanged rfl (fun _ _ _ _ _ _ us hl => match us, hl with | [_, _, _], _ => rfl) fun f cdv A outer s0 H E hF ds r hR _ => ?_
  obtain ⟨r, p, e, rfl, hl, rfl⟩ := hR
  have hle : (r.filter fun x => decide (x ≠ p)).length ≤ r.length := List.length_filter_le _ _
  have hm : (r.filter fun x => decide (x ≠ p)).map Dat.int ++ [.int e] = (r.filter (fun x => decide (x ≠ p)) ++ [e]).map Dat.int := by simp
  refine ⟨_, ss_one (s_ret (XD.is (x_tupL T.tuple hF (q_mL (o_sorted T.sorted hF (q_mL (o_catL hF (q_mL (o_lcf [3] [("p", 3)] (defScope (top 11)) r .int (fun x => decide (x ≠ p)) .int hF (i_sq hF (xv 0 hF)) (by omega) fun hB x hx => ⟨_, g_name 3 hB, t_one (b_cm (cm_ne (xv 3 hB) (xv 1 hB))), fun _ => xv 3 hB⟩))
    (q_mL (o_lst (xa_cons (xv 2 hF) xa_nil))) (by rw [List.length_map]; show _ + 1 ≤ _; omega))) ?_))) ?_)), .rt _⟩
  · rw [hm]
    exact ok_ints (by rw [List.length_append]; show _ + 1 ≤ _; omega)
  · rw [hm, sort_ints]
end K84
/-! part D2 -/
set_option Elab.async false
set_option linter.all false
set_option maxRecDepth 100000
set_option maxHeartbeats 2000000
namespace K84
open PySem PySem.Spec PyProof.Rows L2 Evl FX
variable {W : Wd}
/-! ### subsets -/
def subs : List Int → Nat → List (List Int)
  | _, 0 => [[]]
  | l, s + 1 => (List.range (l.length - s)).flatMap fun k => (subs (l.drop (k + 1)) s).map fun r => l.getD k 0 :: r
def subsAt (l : List Int) (s k : Nat) : List (List Int) := (subs (l.drop (k + 1)) s).map fun r => l.getD k 0 :: r
def subsTo (l : List Int) (s t : Nat) : List (List Int) := (List.range t).flatMap (subsAt l s)
theorem subsTo_succ (l : List Int) (s t : Nat) : subsTo l s (t + 1) = subsTo l s t ++ subsAt l s t := by
  unfold subsTo
  rw [List.range_succ, List.flatMap_append, List.flatMap_singleton]
theorem subs_mem : ∀ {s : Nat} {l r : List Int}, r ∈ subs l s → r.length = s
  | 0, l, r, h => by
    rw [subs] at h
    rw [List.mem_singleton.mp h]
    rfl
  | s + 1, l, r, h => by
    rw [subs] at h
    obtain ⟨k, _, h⟩ := List.mem_flatMap.mp h
    obtain ⟨q, hq, rfl⟩ := List.mem_map.mp h
    rw [List.length_cons, subs_mem hq]
theorem subsTo_len : ∀ (l : List Int) (s t : Nat), t ≤ l.length - s → (subsTo l s t).length ≤ 2 ^ l.length
  | l, s, t, h => by
    induction s generalizing l t with
    | zero =>
      have e : ∀ t, (subsTo l 0 t).length = t := fun t => by
        induction t with
        | zero => rfl
        | succ t ih => rw [subsTo_succ, List.length_append, ih]; unfold subsAt; rw [subs]; rfl
      rw [e]
      exact Nat.le_trans (by omega) (Nat.le_of_lt Nat.lt_two_pow_self)
    | succ s ih =>
      -- all that begin at a place below t
      have key : ∀ t, t ≤ l.length → (subsTo l (s + 1) t).length + 2 ^ (l.length - t) ≤ 2 ^ l.length := fun t => by
        induction t with
        | zero => intro _; show 0 + _ ≤ _; rw [Nat.zero_add, Nat.sub_zero]; exact Nat.le_refl _
        | succ t iht =>
          intro ht
          have h1 := iht (by omega)
          have h2 : (subsAt l (s + 1) t).length ≤ 2 ^ (l.length - (t + 1)) := by
            unfold subsAt
            rw [List.length_map, subs]
            have := ih (l.drop (t + 1)) ((l.drop (t + 1)).length - s) (Nat.le_refl _)
            rw [List.length_drop] at this
            rw [List.length_drop]
            exact this
          rw [subsTo_succ, List.length_append]
          have e : 2 ^ (l.length - t) = 2 ^ (l.length - (t + 1)) + 2 ^ (l.length - (t + 1)) := by
            rw [show l.length - t = (l.length - (t + 1)) + 1 by omega, Nat.pow_succ]
            omega
          omega
      exact Nat.le_trans (Nat.le_add_right _ _) (key t (by omega))
theorem pow_small {n : Nat} (h : n ≤ 12) : 2 ^ n ≤ 4096 := Nat.le_trans (Nat.pow_le_pow_right (by decide) h) (by decide)
theorem cut_next (l : List Int) (t : Nat) : Dat.sq true (FX.cutD (l.map .int) (some ((t : Int) + 1)) none) = tI (l.drop (t + 1)) := by
  rw [show ((t : Nat) : Int) + 1 = ((t + 1 : Nat) : Int) by omega, cut_from, ← List.map_drop]
def Rsubs (m : Nat) : List Dat → Sl → Prop := fun ds r => ∃ (l : List Int) (s : Nat), ds = [tI l, .int (s : Nat)] ∧ s ≤ m ∧ s ≤ l.length ∧ l.length ≤ 12 ∧ r = .mL ((subs l s).map tI)
theorem sc_subsets : FnScope ["items", "size", "found", "k", "rest"] ["items", "size"] (defScope (top 13)) := ⟨rfl, rfl, rfl, by decide +kernel, rfl, by decide +kernel, by decide +kernel⟩
theorem step_subsets (T : Bi W) (D : HasDef W "subsets" 13) (m : Nat) (h : ∀ j, j < m → Fn W "subsets" (j + 1) 2 (Rsubs j)) : Fn W "subsets" (m + 1) 2 (Rsubs m) := by
    refine fn_mk D sc_subsets rfl (fun _ _ _ _ _ _ us hl => match us, hl with | [_, _], _ => rfl) fun f cdv A outer s0 H E hF ds r hR _ => ?_
    obtain ⟨l, s, rfl, hs, hsl, hl, rfl⟩ := hR
    cases s with
    | zero => exact ⟨_, ss_stop (s_ifT (XB.is (b_cm (cm_eq (xv 1 hF) x_int)) (decide_eq_true rfl)) (ss_one (s_ret (o_lst (xa_cons (x_tup xa_nil) xa_nil))))), .rt _⟩
    | succ s =>
      have ih := h s (by omega)
      have hle : ∀ t, t ≤ l.length - s → ((subsTo l s t).map tI).length < 100000 := fun t ht => by
        rw [List.length_map]
        have := subsTo_len l s t ht
        have := pow_small hl
        omega
      refine ⟨_, ss_cons (s_ifN (XB.is (b_cm (cm_eq (xv 1 hF) x_int)) (decide_eq_false (by omega)))) (ss_cons (s_set 2 hF (o_lst xa_nil))
        (ss_cons (s_for (is := [3]) (fun t => [.dat (tI l), .dat (.int ((s + 1 : Nat) : Int)), .mL ((subsTo l s t).map tI), .no, .no]) hF
          (i_rngN (n := l.length - s) T.range hF (XD.is (x_add (x_sub (x_lenM T.len hF (q_of (xv 0 hF))) (xv 1 hF)) x_int) (by congr 1; omega)) (by omega)) ?_ ?_) (ss_one (s_retV 2 hF ?_ ?_)))), .rt _⟩
      · exact .same (.same (.same (.drop (.drop .nil))))
      · intro t d hd
        obtain ⟨k, hk, rfl⟩ := map_get hd
        have hk2 := (List.getElem?_eq_some_iff.mp hk).1
        rw [List.getElem?_range (by simpa using hk2)] at hk
        cases hk
        have hk3 : t < l.length - s := by simpa using hk2
        refine ⟨_, _, g_name 3 hF, ss_one (s_for (is := [4]) (fun u => [.dat (tI l), .dat (.int ((s + 1 : Nat) : Int)), .mL ((subsTo l s t ++ (subsAt l s t).take u).map tI), .dat (nD t), .no]) hF
          (i_sq (t := false) hF (XE.pub (x_call ih hF (by omega) (xa_cons (XD.is (x_slT hF (xv 0 hF) (o_some (x_add (xv 3 hF) x_int)) o_none) (cut_next l t)) (xa_cons (XD.is (x_sub (xv 1 hF) x_int) (by congr 1; omega)) xa_nil)) rfl
            (s := .mL ((subs (l.drop (t + 1)) s).map tI)) ⟨l.drop (t + 1), s, rfl, Nat.le_refl _, by rw [List.length_drop]; omega, by rw [List.length_drop]; omega, rfl⟩))) ?_ ?_), _, .inl rfl, ?_⟩
        · rw [List.take_zero, List.append_nil]
          exact .same (.same (.same (.same (.drop .nil))))
        · intro u d hd
          obtain ⟨r, hr, rfl⟩ := map_get hd
          have hu : (subsAt l s t)[u]? = some (l.getD t 0 :: r) := by
            unfold subsAt
            rw [List.getElem?_map, hr]
            rfl
          refine ⟨_, _, g_name 4 hF, ss_one (s_append 2 hF rfl (x_catT hF (x_tup (xa_cons (x_ix hF (q_of (xv 0 hF)) (xv 3 hF) (atI_getD (by omega))) xa_nil)) (xv 4 hF) ?_) ?_), _, .inl rfl, ?_⟩
          · have := subs_mem (List.mem_of_getElem? hr)
            rw [List.length_map]
            show 1 + _ ≤ _
            omega
          · have h1 := hle (t + 1) (by omega)
            rw [List.length_map, subsTo_succ, List.length_append] at h1
            rw [List.length_map, List.length_append, List.length_take]
            omega
          · have e : (subsTo l s t ++ (subsAt l s t).take u).map tI ++ [.sq true ([.int (l.getD t 0)] ++ r.map .int)] = (subsTo l s t ++ (subsAt l s t).take (u + 1)).map tI := by
              rw [List.take_add_one, hu, Option.toList_some, ← List.append_assoc, List.map_append (l₂ := [_])]
              rfl
            rw [← e]
            exact .same (.same (.same (.same (.drop .nil))))
        · rw [List.length_map, show (subs (l.drop (t + 1)) s).length = (subsAt l s t).length by unfold subsAt; rw [List.length_map], List.take_length, subsTo_succ]
          exact .same (.same (.same (.drop (.drop .nil))))
      · rw [List.length_map, List.length_range]
        rfl
      · intro z; cases z
theorem ok_subsets (T : Bi W) (D : HasDef W "subsets" 13) (m : Nat) : Fn W "subsets" (m + 1) 2 (Rsubs m) := by
  induction m using Nat.strongRecOn with
  | _ m ih => exact step_subsets T D m ih
theorem sc_lawrooms : FnScope ["items", "size", "found", "k", "rest"] ["items", "size"] (defScope (top 42)) := ⟨rfl, rfl, rfl, by decide +kernel, rfl, by decide +kernel, by decide +kernel⟩
theorem step_lawrooms (T : Bi W) (D : HasDef W "_law_rooms" 42) (m : Nat) (h : ∀ j, j < m → Fn W "_law_rooms" (j + 1) 2 (Rsubs j)) : Fn W "_law_rooms" (m + 1) 2 (Rsubs m) := by
    refine fn_mk D sc_lawrooms rfl (fun _ _ _ _ _ _ us hl => match us, hl with | [_, _], _ => rfl) fun f cdv A outer s0 H E hF ds r hR _ => ?_
    obtain ⟨l, s, rfl, hs, hsl, hl, rfl⟩ := hR
    cases s with
    | zero => exact ⟨_, ss_stop (s_ifT (XB.is (b_cm (cm_eq (xv 1 hF) x_int)) (decide_eq_true rfl)) (ss_one (s_ret (o_lst (xa_cons (x_tup xa_nil) xa_nil))))), .rt _⟩
    | succ s =>
      have ih := h s (by omega)
      have hle : ∀ t, t ≤ l.length - s → ((subsTo l s t).map tI).length < 100000 := fun t ht => by
        rw [List.length_map]
        have := subsTo_len l s t ht
        have := pow_small hl
        omega
      refine ⟨_, ss_cons (s_ifN (XB.is (b_cm (cm_eq (xv 1 hF) x_int)) (decide_eq_false (by omega)))) (ss_cons (s_set 2 hF (o_lst xa_nil))
        (ss_cons (s_for (is := [3]) (fun t => [.dat (tI l), .dat (.int ((s + 1 : Nat) : Int)), .mL ((subsTo l s t).map tI), .no, .no]) hF
          (i_rngN (n := l.length - s) T.range hF (XD.is (x_add (x_sub (x_lenM T.len hF (q_of (xv 0 hF))) (xv 1 hF)) x_int) (by congr 1; omega)) (by omega)) ?_ ?_) (ss_one (s_retV 2 hF ?_ ?_)))), .rt _⟩
      · exact .same (.same (.same (.drop (.drop .nil))))
      · intro t d hd
        obtain ⟨k, hk, rfl⟩ := map_get hd
        have hk2 := (List.getElem?_eq_some_iff.mp hk).1
        rw [List.getElem?_range (by simpa using hk2)] at hk
        cases hk
        have hk3 : t < l.length - s := by simpa using hk2
        refine ⟨_, _, g_name 3 hF, ss_one (s_for (is := [4]) (fun u => [.dat (tI l), .dat (.int ((s + 1 : Nat) : Int)), .mL ((subsTo l s t ++ (subsAt l s t).take u).map tI), .dat (nD t), .no]) hF
          (i_sq (t := false) hF (XE.pub (x_call ih hF (by omega) (xa_cons (XD.is (x_slT hF (xv 0 hF) (o_some (x_add (xv 3 hF) x_int)) o_none) (cut_next l t)) (xa_cons (XD.is (x_sub (xv 1 hF) x_int) (by congr 1; omega)) xa_nil)) rfl
            (s := .mL ((subs (l.drop (t + 1)) s).map tI)) ⟨l.drop (t + 1), s, rfl, Nat.le_refl _, by rw [List.length_drop]; omega, by rw [List.length_drop]; omega, rfl⟩))) ?_ ?_), _, .inl rfl, ?_⟩
        · rw [List.take_zero, List.append_nil]
          exact .same (.same (.same (.same (.drop .nil))))
        · intro u d hd
          obtain ⟨r, hr, rfl⟩ := map_get hd
          have hu : (subsAt l s t)[u]? = some (l.getD t 0 :: r) := by
            unfold subsAt
            rw [List.getElem?_map, hr]
            rfl
          refine ⟨_, _, g_name 4 hF, ss_one (s_append 2 hF rfl (x_catT hF (x_tup (xa_cons (x_ix hF (q_of (xv 0 hF)) (xv 3 hF) (atI_getD (by omega))) xa_nil)) (xv 4 hF) ?_) ?_), _, .inl rfl, ?_⟩
          · have := subs_mem (List.mem_of_getElem? hr)
            rw [List.length_map]
            show 1 + _ ≤ _
            omega
          · have h1 := hle (t + 1) (by omega)
            rw [List.length_map, subsTo_succ, List.length_append] at h1
            rw [List.length_map, List.length_append, List.length_take]
            omega
          · have e : (subsTo l s t ++ (subsAt l s t).take u).map tI ++ [.sq true ([.int (l.getD t 0)] ++ r.map .int)] = (subsTo l s t ++ (subsAt l s t).take (u + 1)).map tI := by
              rw [List.take_add_one, hu, Option.toList_some, ← List.append_assoc, List.map_append (l₂ := [_])]
              rfl
            rw [← e]
            exact .same (.same (.same (.same (.drop .nil))))
        · rw [List.length_map, show (subs (l.drop (t + 1)) s).length = (subsAt l s t).length by unfold subsAt; rw [List.length_map], List.take_length, subsTo_succ]
          exact .same (.same (.same (.drop (.drop .nil))))
      · rw [List.length_map, List.length_range]
        rfl
      · intro z; cases z
theorem ok_lawrooms (T : Bi W) (D : HasDef W "_law_rooms" 42) (m : Nat) : Fn W "_law_rooms" (m + 1) 2 (Rsubs m) := by
  induction m using Nat.strongRecOn with
  | _ m ih => exact step_lawrooms T D m ih
/-! ### signs -/
def Rsign : List Dat → Sl → Prop := fun ds r => ∃ (t : Bool) (l : List Int), ds = [.sq t (l.map .int)] ∧ l.length ≤ 1000 ∧ r = .dat (.int (M84.sg l))
theorem sc_sign : FnScope ["row", "sign", "k", "j"] ["row"] (defScope (top 14)) := ⟨rfl, rfl, rfl, by decide +kernel, rfl, by decide +kernel, by decide +kernel⟩
theorem ok_sign (T : Bi W) (D : HasDef W "order_sign" 14) : Fn W "order_sign" 1 1 Rsign := by
  refine fn_mk D sc_sign rfl (fun _ _ _ _ _ _ us hl => match us, hl with | [_], _ => rfl) fun f cdv A outer s0 H E hF ds r hR _ => ?_
  obtain ⟨t, l, rfl, hl, rfl⟩ := hR
  refine ⟨_, ss_cons (s_set 1 hF x_int) (ss_cons (s_for (is := [2]) (fun k => [.dat (.sq t (l.map .int)), .dat (.int (M84.sgOut l k)), .no, .no]) hF (i_rngN T.range hF (x_lenM T.len hF (q_of (xv 0 hF))) (by omega)) ?_ ?_) (ss_one (s_ret (XD.is (xv 1 hF) ?_)))), .rt _⟩
  · exact .same (.same (.drop (.drop .nil)))
  · intro k d hd
    obtain ⟨k', hk, rfl⟩ := map_get hd
    have hk2 := (List.getElem?_eq_some_iff.mp hk).1
    rw [List.getElem?_range (by simpa using hk2)] at hk
    cases hk
    have hk3 : k < l.length := by simpa using hk2
    refine ⟨_, _, g_name 2 hF, ss_one (s_for (is := [3]) (fun j => [.dat (.sq t (l.map .int)), .dat (.int (M84.sgIn l k (M84.sgOut l k) j)), .dat (nD k), .no]) hF (i_rngN T.range hF (xv 2 hF) (by omega)) ?_ ?_), _, .inl rfl, ?_⟩
    · exact .same (.same (.same (.drop .nil)))
    · intro j d hd
      obtain ⟨j', hj, rfl⟩ := map_get hd
      have hj2 := (List.getElem?_eq_some_iff.mp hj).1
      rw [List.getElem?_range (by simpa using hj2)] at hj
      cases hj
      have hj3 : j < k := by simpa using hj2
      by_cases c : l.getD k 0 < l.getD j 0
      · refine ⟨_, _, g_name 3 hF, ss_one (s_ifT (XB.is (b_cm (cm_gt (x_ix hF (q_of (xv 0 hF)) (xv 3 hF) (atI_getD (by omega))) (x_ix hF (q_of (xv 0 hF)) (xv 2 hF) (atI_getD hk3)))) (decide_eq_true c)) (ss_one (s_set 1 hF (x_neg (xv 1 hF))))), _, .inl rfl, ?_⟩
        show Wk _ [_, .dat (.int (if _ then _ else _)), _, _]
        rw [if_pos c]
        exact .same (.same (.same (.drop .nil)))
      · refine ⟨_, _, g_name 3 hF, ss_one (s_ifN (XB.is (b_cm (cm_gt (x_ix hF (q_of (xv 0 hF)) (xv 3 hF) (atI_getD (by omega))) (x_ix hF (q_of (xv 0 hF)) (xv 2 hF) (atI_getD hk3)))) (decide_eq_false c))), _, .inl rfl, ?_⟩
        show Wk _ [_, .dat (.int (if _ then _ else _)), _, _]
        rw [if_neg c]
        exact .same (.same (.same (.drop .nil)))
    · rw [List.length_map, List.length_range]
      exact .same (.same (.drop (.drop .nil)))
  · rw [List.length_map, List.length_range, M84.sgOut_all]
theorem sc_lawsign : FnScope ["row", "sign", "k", "j"] ["row"] (defScope (top 44)) := ⟨rfl, rfl, rfl, by decide +kernel, rfl, by decide +kernel, by decide +kernel⟩
theorem ok_lawsign (T : Bi W) (D : HasDef W "_law_sign" 44) : Fn W "_law_sign" 1 1 Rsign := by
  refine fn_mk D sc_lawsign rfl (fun _ _ _ _ _ _ us hl => match us, hl with | [_], _ => rfl) fun f cdv A outer s0 H E hF ds r hR _ => ?_
  obtain ⟨t, l, rfl, hl, rfl⟩ := hR
  refine ⟨_, ss_cons (s_set 1 hF x_int) (ss_cons (s_for (is := [2]) (fun k => [.dat (.sq t (l.map .int)), .dat (.int (M84.sgOut l k)), .no, .no]) hF (i_rngN T.range hF (x_lenM T.len hF (q_of (xv 0 hF))) (by omega)) ?_ ?_) (ss_one (s_ret (XD.is (xv 1 hF) ?_)))), .rt _⟩
  · exact .same (.same (.drop (.drop .nil)))
  · intro k d hd
    obtain ⟨k', hk, rfl⟩ := map_get hd
    have hk2 := (List.getElem?_eq_some_iff.mp hk).1
    rw [List.getElem?_range (by simpa using hk2)] at hk
    cases hk
    have hk3 : k < l.length := by simpa using hk2
    refine ⟨_, _, g_name 2 hF, ss_one (s_for (is := [3]) (fun j => [.dat (.sq t (l.map .int)), .dat (.int (M84.sgIn l k (M84.sgOut l k) j)), .dat (nD k), .no]) hF (i_rngN T.range hF (xv 2 hF) (by omega)) ?_ ?_), _, .inl rfl, ?_⟩
    · exact .same (.same (.same (.drop .nil)))
    · intro j d hd
      obtain ⟨j', hj, rfl⟩ := map_get hd
      have hj2 := (List.getElem?_eq_some_iff.mp hj).1
      rw [List.getElem?_range (by simpa using hj2)] at hj
      cases hj
      have hj3 : j < k := by simpa using hj2
      by_cases c : l.getD k 0 < l.getD j 0
      · refine ⟨_, _, g_name 3 hF, ss_one (s_ifT (XB.is (b_cm (cm_gt (x_ix hF (q_of (xv 0 hF)) (xv 3 hF) (atI_getD (by omega))) (x_ix hF (q_of (xv 0 hF)) (xv 2 hF) (atI_getD hk3)))) (decide_eq_true c)) (ss_one (s_set 1 hF (x_neg (xv 1 hF))))), _, .inl rfl, ?_⟩
        show Wk _ [_, .dat (.int (if _ then _ else _)), _, _]
        rw [if_pos c]
        exact .same (.same (.same (.drop .nil)))
      · refine ⟨_, _, g_name 3 hF, ss_one (s_ifN (XB.is (b_cm (cm_gt (x_ix hF (q_of (xv 0 hF)) (xv 3 hF) (atI_getD (by omega))) (x_ix hF (q_of (xv 0 hF)) (xv 2 hF) (atI_getD hk3)))) (decide_eq_false c))), _, .inl rfl, ?_⟩
        show Wk _ [_, .dat (.int (if _ then _ else _)), _, _]
        rw [if_neg c]
        exact .same (.same (.same (.drop .nil)))
    · rw [List.length_map, List.length_range]
      exact .same (.same (.drop (.drop .nil)))
  · rw [List.length_map, List.length_range, M84.sgOut_all]
end K84
/-! part D3 -/
set_option Elab.async false
set_option linter.all false
set_option maxRecDepth 100000
set_option maxHeartbeats 2000000
namespace K84
open PySem PySem.Spec PyProof.Rows L2 Evl FX
variable {W : Wd}
/-! ### faults of a room -/
theorem sc_roomfault : FnScope ["places", "size", "room", "p"] ["places", "size", "room"] (defScope (top 16)) := ⟨rfl, rfl, rfl, by decide +kernel, rfl, by decide +kernel, by decide +kernel⟩
def Rfault : List Dat → Sl → Prop := fun ds s => ∃ (n z : Int) (r : List Int), ds = [.int n, .int z, tI r] ∧ r.length ≤ 1000 ∧
  (((r.length : Int) = z ∧ (∀ p ∈ r, 0 ≤ p ∧ p < n) ∧ r.Nodup ∧ s = .dat (.str "")) ∨ ((r.length : Int) ≠ z ∧ s = .dat (.str "count")))
theorem ok_roomfault (T : Bi W) (D : HasDef W "room_fault" 16) : Fn W "room_fault" 1 3 Rfault := by
  refine fn_mk D sc_roomfault rfl (fun _ _ _ _ _ _ us hl => match us, hl with | [_, _, _], _ => rfl) fun f cdv A outer s0 H E hF ds r hR _ => ?_
  obtain ⟨n, z, r, rfl, hl, h⟩ := hR
  rcases h with ⟨h1, h2, h3, rfl⟩ | ⟨h1, rfl⟩
  · refine ⟨_, ss_cons (s_ifN (XB.is (b_cm (cm_ne (x_lenM T.len hF (q_of (xv 2 hF))) (xv 1 hF))) (decide_eq_false (fun e => e h1)))) (ss_cons (s_forM [3] (fun _ => [.dat (.int n), .dat (.int z), .dat (tI r), .no]) hF (i_sq hF (xv 2 hF)) ?_ ?_)
      (ss_cons (s_ifN (XB.is (b_cm (cm_ne (x_lenSet T.len T.set hF (q_of (xv 2 hF)) h3 (by omega)) (xv 1 hF))) (decide_eq_false (fun e => e h1)))) (ss_one (s_ret x_str)))), .rt _⟩
    · exact .same (.same (.same (.same .nil)))
    · intro t p hp
      obtain ⟨a, b⟩ := h2 p (List.mem_of_getElem? hp)
      refine ⟨_, _, g_name 3 hF, ss_one (s_ifN (XB.is (b_not (b_leLt x_int (xv 3 hF) (xv 0 hF))) ?_)), _, .inl rfl, .same (.same (.same (.drop .nil)))⟩
      rw [decide_eq_true a, decide_eq_true b]
      rfl
  · exact ⟨_, ss_stop (s_ifT (XB.is (b_cm (cm_ne (x_lenM T.len hF (q_of (xv 2 hF))) (xv 1 hF))) (decide_eq_true h1)) (ss_one (s_ret x_str))), .rt _⟩

/-! ### orders -/
def isOrd (v : Nat) (o : List Int) : Prop := o.Perm (irg 0 v)
structure Ords (os : List (List Int)) (d v : Nat) : Prop where
  len : os.length = d
  d1 : 1 ≤ d
  d4 : d ≤ 4
  v1 : 1 ≤ v
  v8 : v ≤ 8
  ord : ∀ o ∈ os, isOrd v o
theorem Ords.olen {os : List (List Int)} {d v : Nat} (h : Ords os d v) {o : List Int} (ho : o ∈ os) : o.length = v := by rw [(h.ord o ho).length_eq, irg_len]
abbrev sqI (t : Bool) (ns : List Int) : Dat := .sq t (ns.map .int)
abbrev ordD (t : Bool) (os : List (List Int)) : Dat := .sq t (os.map (sqI t))
theorem irg_asc : ∀ (a : Int) (n : Nat), (irg a n).Pairwise (· < ·) := fun a n => by
  unfold irg
  rw [List.pairwise_map]
  exact List.pairwise_lt_range.imp fun h => by omega
/-- ints in rising order are their own sorting -/
theorem sortI_unique {l m : List Int} (hp : l.Perm m) (hs : m.Pairwise (· ≤ ·)) : sortI l = m := by
  have h1 : (sortI l).Pairwise (· ≤ ·) := by
    have := List.pairwise_mergeSort (le := fun a b : Int => decide (a ≤ b)) (by intro a b c; simp; omega) (by intro a b; simp; omega) l
    exact this.imp fun h => by simpa using h
  exact List.Perm.eq_of_pairwise (le := (· ≤ ·)) (fun a b _ _ h1 h2 => Int.le_antisymm h1 h2) h1 hs ((List.mergeSort_perm l _).trans hp)
theorem sortI_order {v : Nat} {o : List Int} (h : isOrd v o) : sortI o = irg 0 v := sortI_unique h ((irg_asc 0 v).imp fun h => Int.le_of_lt h)
theorem sortI_perm (l : List Int) : (sortI l).Perm l := List.mergeSort_perm l _
theorem sortI_asc {l : List Int} (h : l.Nodup) : (sortI l).Pairwise (· < ·) := by
  have h1 : (sortI l).Pairwise (· ≤ ·) := by
    have := List.pairwise_mergeSort (le := fun a b : Int => decide (a ≤ b)) (by intro a b c; simp; omega) (by intro a b; simp; omega) l
    exact this.imp fun h => by simpa using h
  have h2 : (sortI l).Nodup := (sortI_perm l).nodup_iff.mpr h
  exact (List.pairwise_and_iff.mpr ⟨h1, h2⟩).imp fun ⟨a, b⟩ => by omega
theorem eqv_ints (xs ys : List Int) : PyData.eqvAll (xs.map .int) (ys.map .int) = decide (xs = ys) := by
  induction xs generalizing ys with
  | nil => cases ys <;> simp [PyData.eqvAll]
  | cons x xs ih =>
    cases ys with
    | nil => simp [PyData.eqvAll]
    | cons y ys =>
      rw [List.map_cons, List.map_cons, PyData.eqvAll, ih ys, PyData.eqv, Bool.eq_iff_iff]
      simp
theorem eqv_sqI (t : Bool) (xs ys : List Int) : PyData.eqv (sqI t xs).py (sqI t ys).py = decide (xs = ys) := by
  cases t with
  | true => rw [py_tI, py_tI, PyData.eqv, eqv_ints]
  | false => rw [py_lI, py_lI, PyData.eqv, eqv_ints]
theorem shaped_sqI (t : Bool) (ns : List Int) : SeqAt.shaped (sqI t ns).py = true := by
  have key : PyData.canLayAll0 (ns.map .int) = true := by
    induction ns with
    | nil => simp [PyData.canLayAll0]
    | cons n ns ih => rw [List.map_cons, PyData.canLayAll0, ih, PyData.canLay0]; rfl
  unfold SeqAt.shaped
  cases t with
  | true =>
    rw [py_tI, PyData.canLay0, key, PyData.depth, PySem.W.depth_ints]
    rfl
  | false =>
    rw [py_lI, PyData.canLay0, key, PyData.depth, PySem.W.depth_ints]
    rfl
theorem flat_sqI (t : Bool) (ns : List Int) : (sqI t ns).flat = true := by rw [Dat.flat]; exact flat_intsD ns
structure Nums (W : Wd) : Prop where
  mo : ∃ t, W.mg "MOST_ORDERS" = some (.int 4 t)
  mt : ∃ t, W.mg "MOST_THINGS" = some (.int 8 t)
theorem sc_check : FnScope ["orders", "things", "at", "order"] ["orders"] (defScope (top 25)) := ⟨rfl, rfl, rfl, by decide +kernel, rfl, by decide +kernel, by decide +kernel⟩
def Rcheck : List Dat → Sl → Prop := fun ds s => ∃ (t : Bool) (os : List (List Int)) (d v : Nat), ds = [ordD t os] ∧ Ords os d v ∧ s = .dat (.sq true [nD d, nD v])
theorem ok_check (T : Bi W) (M : Nums W) (D : HasDef W "check_orders" 25) : Fn W "check_orders" 1 1 Rcheck := by
  refine fn_mk D sc_check rfl (fun _ _ _ _ _ _ us hl => match us, hl with | [_], _ => rfl) fun f cdv A outer s0 H E hF ds r hR _ => ?_
  obtain ⟨t, os, d, v, rfl, ho, rfl⟩ := hR
  obtain ⟨t4, m4⟩ := M.mo
  obtain ⟨t8, m8⟩ := M.mt
  have h1 := ho.d1
  have h2 := ho.d4
  have h3 := ho.v1
  have h4 := ho.v8
  obtain ⟨o0, os', hos⟩ : ∃ o0 os', os = o0 :: os' := by
    cases os with
    | nil => have := ho.len; simp at this; omega
    | cons a b => exact ⟨a, b, rfl⟩
  have hx : XD (bodyF W ["orders", "things", "at", "order"] "check_orders" (defScope (top 25)) f cdv A outer s0 H E) (.Name "orders" ⟨0, 0, 0, 0⟩) (gam ["orders", "things", "at", "order"] [ordD t os]) (ordD t os) := xv 0 hF
  have l0 : (o0 : List Int).length = v := ho.olen (by rw [hos]; exact List.mem_cons_self)
  have a0 : atI (os.map (sqI t)) 0 = some (sqI t o0) := atI_map (j := 0) (by rw [hos]; rfl)
  refine ⟨_, ss_cons (s_ifN (XB.is (b_not (b_leLe x_int (x_lenM T.len hF (q_of (xv 0 hF))) (x_globI hF m4))) ?_)) (ss_cons (s_set 1 hF (XD.is (x_lenM T.len hF (q_of (x_ix hF (q_of (xv 0 hF)) x_int a0))) (congrArg nD l0)))
    (ss_cons (s_ifN (XB.is (b_not (b_leLe x_int (xv 1 hF) (x_globI hF m8))) ?_)) (ss_cons (s_forE [2, 3] (fun _ => [.dat (ordD t os), .dat (nD v), .no, .no]) hF (i_enum T.enumerate hF (xv 0 hF)) (.same (.same (.same (.same .nil)))) ?_)
      (ss_one (s_ret (x_tup (xa_cons (XD.is (x_lenM T.len hF (q_of (xv 0 hF))) (congrArg nD ho.len)) (xa_cons (xv 1 hF) xa_nil)))))))), .rt _⟩
  · rw [ho.len, decide_eq_true (show (1 : Int) ≤ (d : Nat) by omega), decide_eq_true (show ((d : Nat) : Int) ≤ 4 by omega)]
    rfl
  · rw [decide_eq_true (show (1 : Int) ≤ (v : Nat) by omega), decide_eq_true (show ((v : Nat) : Int) ≤ 8 by omega)]
    rfl
  · intro j o hj
    have hm := List.mem_of_getElem? hj
    refine ⟨_, _, g_tup hF (gs_cons (g_name 2 hF) (gs_cons (g_name 3 hF) gs_nil)), ss_one (s_ifN (XB.is (b_cm (cm_neD hF (XE.pub (XE.is (o_sorted T.sorted hF (q_of (xv 3 hF)) (ok_ints (by rw [ho.olen hm]; omega))) (by rw [sort_ints, sortI_order (ho.ord o hm)])))
      (XE.pub (o_listRg T.list T.range hF (xv 1 hF) (by omega))) (flat_sqI false _) (flat_sqI false _) (shaped_sqI false _) (shaped_sqI false _))) ?_)), _, .inl rfl, .same (.same (.drop (.drop .nil)))⟩
    rw [eqv_sqI, decide_eq_true rfl]
    rfl
end K84
/-! part D4 -/
set_option Elab.async false
set_option linter.all false
set_option maxRecDepth 100000
set_option maxHeartbeats 2000000
namespace K84
open PySem PySem.Spec PyProof.Rows L2 Evl FX
variable {W : Wd}
/-! ### the full rows -/
def fullRow (d v k : Nat) (o : List Int) : List Int := ([((v : Nat) : Int) + (k : Nat)] ++ o) ++ ((List.range d).filter fun (j : Nat) => decide ((j : Int) ≠ (k : Nat))).map fun j => ((v : Nat) : Int) + (j : Nat)
def fulls (os : List (List Int)) (d v : Nat) : List (List Int) := os.mapIdx fun k o => fullRow d v k o
theorem fulls_len (os : List (List Int)) (d v : Nat) : (fulls os d v).length = os.length := List.length_mapIdx
theorem fulls_get {os : List (List Int)} {d v k : Nat} {o : List Int} (h : os[k]? = some o) : (fulls os d v)[k]? = some (fullRow d v k o) := by
  unfold fulls
  rw [List.getElem?_mapIdx, h]
  rfl
theorem fullRow_len {d v k : Nat} {o : List Int} (h : o.length = v) : (fullRow d v k o).length ≤ 1 + v + d := by
  unfold fullRow
  rw [List.length_append, List.length_append, List.length_map, h]
  have := List.length_filter_le (fun (j : Nat) => decide ((j : Int) ≠ (k : Nat))) (List.range d)
  rw [List.length_range] at this
  show 1 + v + _ ≤ _
  omega
abbrev rowsD (rs : List (List Int)) : Dat := .sq false (rs.map .row)
theorem sc_full : FnScope ["orders", "number", "things", "rows", "at", "order", "others", "k"] ["orders"] (defScope (top 26)) := ⟨rfl, rfl, rfl, by decide +kernel, rfl, by decide +kernel, by decide +kernel⟩
def Rfull : List Dat → Sl → Prop := fun ds s => ∃ (t : Bool) (os : List (List Int)) (d v : Nat), ds = [ordD t os] ∧ Ords os d v ∧ s = .mL ((fulls os d v).map .row)
theorem ok_full (T : Bi W) (C : Fn W "check_orders" 1 1 Rcheck) (D : HasDef W "full_orders" 26) : Fn W "full_orders" 2 1 Rfull := by
  refine fn_mk D sc_full rfl (fun _ _ _ _ _ _ us hl => match us, hl with | [_], _ => rfl) fun f cdv A outer s0 H E hF ds r hR _ => ?_
  obtain ⟨t, os, d, v, rfl, ho, rfl⟩ := hR
  have h2 := ho.d4
  have h4 := ho.v8
  refine ⟨_, ss_cons (s_setT hF (x_call C hF (by decide) (xa_cons (xv 0 hF) xa_nil) rfl ⟨t, os, d, v, rfl, ho, rfl⟩) (gs_cons (g_name 1 hF) (gs_cons (g_name 2 hF) gs_nil)))
    (ss_cons (s_set 3 hF (o_lst xa_nil)) (ss_cons (s_forE [4, 5] (fun j => [.dat (ordD t os), .dat (nD d), .dat (nD v), .mL (((fulls os d v).take j).map .row), .no, .no, .no, .no]) hF (i_enum T.enumerate hF (xv 0 hF)) (.same (.same (.same (.same (.same (.same (.same (.same .nil)))))))) ?_)
    (ss_one (s_retV 3 hF rfl (by intro z; cases z))))), ?_⟩
  · intro j o hj
    have hm := List.mem_of_getElem? hj
    have hjl : j < os.length := (List.getElem?_eq_some_iff.mp hj).1
    have hol := ho.olen hm
    have hg := fulls_get (d := d) (v := v) hj
    refine ⟨_, _, g_tup hF (gs_cons (g_name 4 hF) (gs_cons (g_name 5 hF) gs_nil)),
      ss_cons (s_setLcf 6 [7] [("k", 7)] (defScope (top 26)) (List.range d) nD (fun (m : Nat) => decide ((m : Int) ≠ (j : Nat))) (fun (m : Nat) => .int (((v : Nat) : Int) + (m : Nat))) hF (i_rngN T.range hF (xv 1 hF) (by omega)) (by rw [List.length_range]; omega)
        fun hB m hm => ⟨_, g_name 7 hB, t_one (b_cm (cm_ne (xv 7 hB) (xv 4 hB))), fun _ => x_add (xv 2 hB) (xv 7 hB)⟩)
      (ss_one (s_append (d := .row (fullRow d v j o)) 3 hF rfl (x_rowOf T.tuple hF ?_) ?_)), _, .inl rfl, ?_⟩
    · refine XQ.is (q_mL (o_catL hF (q_mL (o_catL hF (q_mL (o_lst (xa_cons (x_add (xv 2 hF) (xv 4 hF)) xa_nil))) (q_mL (o_list T.list hF (q_of (xv 5 hF)))) ?_)) (q_var 6 hF) ?_)) ?_
      · rw [List.length_map]
        show 1 + _ ≤ _
        omega
      · have := List.length_filter_le (fun (m : Nat) => decide ((m : Int) ≠ (j : Nat))) (List.range d)
        rw [List.length_range] at this
        rw [List.length_append, List.length_map, List.length_map]
        show 1 + _ + _ ≤ _
        omega
      · unfold fullRow
        rw [List.map_append, List.map_append, List.map_map]
        rfl
    · rw [List.length_map, List.length_take, fulls_len]
      have := ho.len
      omega
    · have e : ((fulls os d v).take j).map Dat.row ++ [.row (fullRow d v j o)] = ((fulls os d v).take (j + 1)).map Dat.row := by
        rw [List.take_add_one, hg, Option.toList_some, List.map_append]
        rfl
      show Wk [_, _, _, .mL (((fulls os d v).take j).map Dat.row ++ [.row (fullRow d v j o)]), _, _, _, _] _
      rw [e]
      exact .same (.same (.same (.same (.drop (.drop (.drop (.drop .nil)))))))
  · rw [← fulls_len os d v, List.take_length]
    exact .rt _
theorem sc_own : FnScope ["orders", "number", "things"] ["orders"] (defScope (top 27)) := ⟨rfl, rfl, rfl, by decide +kernel, rfl, by decide +kernel, by decide +kernel⟩
def Rown : List Dat → Sl → Prop := fun ds s => ∃ (t : Bool) (os : List (List Int)) (d v : Nat), ds = [ordD t os] ∧ Ords os d v ∧ s = .dat (tI (irg v d))
theorem ok_own (T : Bi W) (C : Fn W "check_orders" 1 1 Rcheck) (D : HasDef W "own_places" 27) : Fn W "own_places" 2 1 Rown := by
  refine fn_mk D sc_own rfl (fun _ _ _ _ _ _ us hl => match us, hl with | [_], _ => rfl) fun f cdv A outer s0 H E hF ds r hR _ => ?_
  obtain ⟨t, os, d, v, rfl, ho, rfl⟩ := hR
  have h2 := ho.d4
  have h4 := ho.v8
  refine ⟨_, ss_cons (s_setT hF (x_call C hF (by decide) (xa_cons (xv 0 hF) xa_nil) rfl ⟨t, os, d, v, rfl, ho, rfl⟩) (gs_cons (g_name 1 hF) (gs_cons (g_name 2 hF) gs_nil)))
    (ss_one (s_ret (XD.is (x_tupRg2 (m := v) (n := v + d) T.tuple T.range hF (xv 2 hF) (XD.is (x_add (xv 2 hF) (xv 1 hF)) (by congr 1)) (by omega) (by omega)) (by first | rfl | rw [Nat.add_sub_cancel_left])))), .rt _⟩
/-! ### the first of a room in a row, what is above it -/
def fstP (row room : List Int) : Int := (row.filter fun p => decide (p ∈ room)).headD 0
theorem sc_first : FnScope ["row", "room", "place"] ["row", "room"] (defScope (top 28)) := ⟨rfl, rfl, rfl, by decide +kernel, rfl, by decide +kernel, by decide +kernel⟩
def Rfirst : List Dat → Sl → Prop := fun ds s => ∃ (row room : List Int), ds = [.row row, tI room] ∧ row.length ≤ 1000 ∧ (∃ p ∈ row, p ∈ room) ∧ s = .dat (.int (fstP row room))
theorem head_at {l : List Int} (h : l ≠ []) : atI (l.map Dat.int) 0 = some (.int (l.headD 0)) := by
  cases l with
  | nil => exact absurd rfl h
  | cons x l => exact atI_map (j := 0) rfl
theorem filt_ne {row room : List Int} (h : ∃ p ∈ row, p ∈ room) : (row.filter fun p => decide (p ∈ room)) ≠ [] := by
  obtain ⟨p, h1, h2⟩ := h
  exact List.ne_nil_of_mem (List.mem_filter.mpr ⟨h1, decide_eq_true h2⟩)
theorem ok_first (T : Bi W) (D : HasDef W "first_of" 28) : Fn W "first_of" 1 2 Rfirst := by
  refine fn_mk D sc_first rfl (fun _ _ _ _ _ _ us hl => match us, hl with | [_, _], _ => rfl) fun f cdv A outer s0 H E hF ds r hR _ => ?_
  obtain ⟨row, room, rfl, hl, h, rfl⟩ := hR
  exact ⟨_, ss_one (s_ret (x_ix hF (q_mL (o_lcf [2] [("place", 2)] (defScope (top 28)) row .int (fun p => decide (p ∈ room)) .int hF (i_row hF (xv 0 hF)) (by omega)
    fun hB p hp => ⟨_, g_name 2 hB, t_one (b_cm (cm_in hB (xv 2 hB) (q_of (xv 1 hB)))), fun _ => xv 2 hB⟩)) x_int (head_at (filt_ne h)))), .rt _⟩
def abvP (row room : List Int) : List Int := row.drop (row.idxOf (fstP row room) + 1)
theorem fstP_mem {row room : List Int} (h : ∃ p ∈ row, p ∈ room) : fstP row room ∈ row ∧ fstP row room ∈ room := by
  unfold fstP
  cases e : (row.filter fun p => decide (p ∈ room)) with
  | nil => exact absurd e (filt_ne h)
  | cons x l =>
    have hx : x ∈ row.filter fun p => decide (p ∈ room) := by rw [e]; exact List.mem_cons_self
    obtain ⟨a, b⟩ := List.mem_filter.mp hx
    exact ⟨a, of_decide_eq_true b⟩
theorem sc_above : FnScope ["row", "room"] ["row", "room"] (defScope (top 29)) := ⟨rfl, rfl, rfl, by decide +kernel, rfl, by decide +kernel, by decide +kernel⟩
def Rabove : List Dat → Sl → Prop := fun ds s => ∃ (row room : List Int), ds = [.row row, tI room] ∧ row.length ≤ 1000 ∧ (∃ p ∈ row, p ∈ room) ∧ s = .dat (tI (abvP row room))
theorem ok_above (T : Bi W) (C : Fn W "first_of" 1 2 Rfirst) (D : HasDef W "places_above" 29) : Fn W "places_above" 2 2 Rabove := by
  refine fn_mk D sc_above rfl (fun _ _ _ _ _ _ us hl => match us, hl with | [_, _], _ => rfl) fun f cdv A outer s0 H E hF ds r hR _ => ?_
  obtain ⟨row, room, rfl, hl, h, rfl⟩ := hR
  refine ⟨_, ss_one (s_ret (XD.is (x_slR hF (xv 0 hF) (o_some (x_add (x_indexR hF (xv 0 hF) (x_call C hF (by decide) (xa_cons (xv 0 hF) (xa_cons (xv 1 hF) xa_nil)) rfl ⟨row, room, rfl, hl, h, rfl⟩) (fstP_mem h).1) x_int)) o_none ?_) ?_)), .rt _⟩
  · intro z
    have z1 := z.1
    rw [show ((row.idxOf (fstP row room) : Nat) : Int) + 1 = ((row.idxOf (fstP row room) + 1 : Nat) : Int) by omega, HT.sIx_nat] at z1
    have := List.length_pos_of_mem (fstP_mem h).1
    omega
  · rw [show ((row.idxOf (fstP row room) : Nat) : Int) + 1 = ((row.idxOf (fstP row room) + 1 : Nat) : Int) by omega, cut_from, ← List.map_drop]
    rfl
/-! ### above in all -/
def abvAll (rows : List (List Int)) (room : List Int) : List Int := rows.tail.foldl (fun found row => found.filter fun p => decide (p ∈ abvP row room)) (sortI (abvP (rows.headD []) room))
theorem sc_all : FnScope ["rows", "room", "found", "row", "above", "place"] ["rows", "room"] (defScope (top 30)) := ⟨rfl, rfl, rfl, by decide +kernel, rfl, by decide +kernel, by decide +kernel⟩
def Rall : List Dat → Sl → Prop := fun ds s => ∃ (rows : List (List Int)) (room : List Int), ds = [rowsD rows, tI room] ∧ rows ≠ [] ∧ rows.length ≤ 1000 ∧ (∀ r ∈ rows, r.length ≤ 1000 ∧ ∃ p ∈ r, p ∈ room) ∧ s = .dat (lI (abvAll rows room))
theorem fold_filter_len (rows : List (List Int)) (room : List Int) : ∀ l : List Int, (rows.foldl (fun found row => found.filter fun p => decide (p ∈ abvP row room)) l).length ≤ l.length := by
  induction rows with
  | nil => exact fun l => Nat.le_refl _
  | cons r rows ih =>
    intro l
    exact Nat.le_trans (ih _) (List.length_filter_le _ _)
theorem abvP_len {row room : List Int} (h : row.length ≤ 1000) : (abvP row room).length ≤ 1000 := by
  unfold abvP
  rw [List.length_drop]
  omega
theorem ok_all (T : Bi W) (C : Fn W "places_above" 2 2 Rabove) (D : HasDef W "above_in_all" 30) : Fn W "above_in_all" 3 2 Rall := by
  refine fn_mk D sc_all rfl (fun _ _ _ _ _ _ us hl => match us, hl with | [_, _], _ => rfl) fun f cdv A outer s0 H E hF ds r hR _ => ?_
  obtain ⟨rows, room, rfl, hne, hl, hr, rfl⟩ := hR
  cases rows with
  | nil => exact absurd rfl hne
  | cons r0 rows =>
    have h0 := hr r0 List.mem_cons_self
    have hlen : ∀ j, (((rows.take j).foldl (fun found row => found.filter fun p => decide (p ∈ abvP row room)) (sortI (abvP r0 room)))).length ≤ 1000 := fun j => by
      refine Nat.le_trans (fold_filter_len _ _ _) ?_
      rw [(sortI_perm _).length_eq]
      exact abvP_len h0.1
    refine ⟨_, ss_cons (s_set 2 hF (XE.pub (XE.is (o_sorted T.sorted hF (q_of (x_call C hF (by decide) (xa_cons (x_ix hF (q_of (xv 0 hF)) x_int (atI_map (j := 0) rfl)) (xa_cons (xv 1 hF) xa_nil)) rfl ⟨r0, room, rfl, h0.1, h0.2, rfl⟩)) (ok_ints (by have := abvP_len (room := room) h0.1; omega))) (by rw [sort_ints]; rfl))))
      (ss_cons (s_forM (l := rows) (enc := .row) [3] (fun j => [.dat (rowsD (r0 :: rows)), .dat (tI room), .dat (lI ((rows.take j).foldl (fun found row => found.filter fun p => decide (p ∈ abvP row room)) (sortI (abvP r0 room)))), .no, .no, .no]) hF
        (i_sq (t := false) hF (XE.pub (XE.is (o_slL hF (q_of (xv 0 hF)) (o_some x_int) o_none) ?_))) (.same (.same (.same (.same (.same (.same .nil)))))) ?_)
      (ss_one (s_ret (xv 2 hF)))), ?_⟩
    · rw [show ((1 : Int)) = ((1 : Nat) : Int) by rfl, cut_from]
      rfl
    · intro j row hj
      have hrow := hr row (List.mem_cons_of_mem _ (List.mem_of_getElem? hj))
      refine ⟨_, _, g_name 3 hF, ss_cons (s_set 4 hF (x_call C hF (by decide) (xa_cons (xv 3 hF) (xa_cons (xv 1 hF) xa_nil)) rfl ⟨row, room, rfl, hrow.1, hrow.2, rfl⟩))
        (ss_one (XS.pubA 2 (s_setLcf 2 [5] [("place", 5)] (defScope (top 30)) _ .int (fun p => decide (p ∈ abvP row room)) .int hF (i_sq hF (xv 2 hF)) (by have := hlen j; omega)
          fun hB p hp => ⟨_, g_name 5 hB, t_one (b_cm (cm_in hB (xv 5 hB) (q_of (xv 4 hB)))), fun _ => xv 5 hB⟩))), _, .inl rfl, ?_⟩
      show Wk [_, _, .dat (.sq false _), _, _, _] _
      have e : (rows.take (j + 1)).foldl (fun found row => found.filter fun p => decide (p ∈ abvP row room)) (sortI (abvP r0 room)) = ((rows.take j).foldl (fun found row => found.filter fun p => decide (p ∈ abvP row room)) (sortI (abvP r0 room))).filter fun p => decide (p ∈ abvP row room) := by
        rw [List.take_add_one, hj, Option.toList_some, List.foldl_append]
        rfl
      rw [e]
      exact .same (.same (.same (.drop (.drop (.drop .nil)))))
    · have e : (rows.take rows.length) = rows := List.take_length
      rw [e]
      exact .rt _
theorem sc_least : FnScope ["orders", "room", "row"] ["orders", "room"] (defScope (top 31)) := ⟨rfl, rfl, rfl, by decide +kernel, rfl, by decide +kernel, by decide +kernel⟩
def leastR (rows : List (List Int)) (room : List Int) : List Int := rows.map fun r => fstP r room
def Rleast : List Dat → Sl → Prop := fun ds s => ∃ (t : Bool) (os : List (List Int)) (d v : Nat) (room : List Int), ds = [ordD t os, tI room] ∧ Ords os d v ∧ (∀ r ∈ fulls os d v, ∃ p ∈ r, p ∈ room) ∧ s = .dat (tI (leastR (fulls os d v) room))
theorem fulls_rlen {os : List (List Int)} {d v : Nat} (ho : Ords os d v) {r : List Int} (h : r ∈ fulls os d v) : r.length ≤ 13 := by
  unfold fulls at h
  obtain ⟨k, hk, rfl⟩ := List.mem_mapIdx.mp h
  have := fullRow_len (d := d) (k := k) (ho.olen (List.getElem_mem hk))
  have := ho.d4
  have := ho.v8
  omega
theorem ok_least (T : Bi W) (C : Fn W "first_of" 1 2 Rfirst) (C2 : Fn W "full_orders" 2 1 Rfull) (D : HasDef W "least_row" 31) : Fn W "least_row" 3 2 Rleast := by
  refine fn_mk D sc_least rfl (fun _ _ _ _ _ _ us hl => match us, hl with | [_, _], _ => rfl) fun f cdv A outer s0 H E hF ds r hR _ => ?_
  obtain ⟨t, os, d, v, room, rfl, ho, hp, rfl⟩ := hR
  refine ⟨_, ss_one (s_ret (XD.is (x_tupL T.tuple hF (q_mL (o_lcm [2] [("row", 2)] (defScope (top 31)) (fulls os d v) .row (fun r => .int (fstP r room)) hF (i_sq (t := false) hF (XE.pub (x_call C2 hF (by decide) (xa_cons (xv 0 hF) xa_nil) rfl ⟨t, os, d, v, rfl, ho, rfl⟩)))
    (by rw [fulls_len, ho.len]; have := ho.d4; omega) fun hB r hr => ⟨_, g_name 2 hB, x_call C hB (by decide) (xa_cons (xv 2 hB) (xa_cons (xv 1 hB) xa_nil)) rfl ⟨r, room, rfl, by have := fulls_rlen ho hr; omega, hp r hr, rfl⟩⟩))) ?_)), .rt _⟩
  show _ = Dat.sq true (List.map Dat.int (List.map _ _))
  rw [List.map_map]
  rfl
/-! ### unbeaten rooms -/
def ubR (os : List (List Int)) (d v : Nat) : List (List Int) := (subs (irg 0 (v + d)) d).filter fun room => decide ((abvAll (fulls os d v) room).length = 0)
theorem sc_ub : FnScope ["orders", "number", "things", "rows", "room"] ["orders"] (defScope (top 32)) := ⟨rfl, rfl, rfl, by decide +kernel, rfl, by decide +kernel, by decide +kernel⟩
def Rub : List Dat → Sl → Prop := fun ds s => ∃ (t : Bool) (os : List (List Int)) (d v : Nat), ds = [ordD t os] ∧ Ords os d v ∧ s = .mL ((ubR os d v).map tI)
/-! ### full rows as permutations -/
theorem irg_nodup (a : Int) (n : Nat) : (irg a n).Nodup := (irg_asc a n).imp fun h => Int.ne_of_lt h
theorem mem_irg {a x : Int} {n : Nat} : x ∈ irg a n ↔ a ≤ x ∧ x < a + n := by
  unfold irg
  rw [List.mem_map]
  constructor
  · rintro ⟨i, hi, rfl⟩
    have := List.mem_range.mp hi
    omega
  · intro h
    exact ⟨(x - a).toNat, List.mem_range.mpr (by omega), by omega⟩
theorem full_all {os : List (List Int)} {d v : Nat} (ho : Ords os d v) {r : List Int} (h : r ∈ fulls os d v) : r.Perm (irg 0 (v + d)) := by
  unfold fulls at h
  obtain ⟨k, hk, rfl⟩ := List.mem_mapIdx.mp h
  have hp := ho.ord _ (List.getElem_mem hk)
  have hd := ho.len
  have memo : ∀ x, x ∈ os[k] ↔ 0 ≤ x ∧ x < 0 + v := fun x => (hp.mem_iff).trans mem_irg
  have hnd : os[k].Nodup := hp.nodup_iff.mpr (irg_nodup 0 v)
  refine (List.perm_ext_iff_of_nodup ?_ (irg_nodup 0 (v + d))).mpr fun x => ?_
  · unfold fullRow
    rw [List.append_assoc]
    refine List.nodup_append.mpr ⟨by simp, List.nodup_append.mpr ⟨hnd, ?_, ?_⟩, ?_⟩
    · have : ((List.range d).filter fun (j : Nat) => decide ((j : Int) ≠ (k : Nat))).Nodup := List.nodup_range.filter _
      exact List.pairwise_map.mpr (this.imp fun h e => h (by omega))
    · intro a ha b hb
      have := (memo a).mp ha
      obtain ⟨j, hj, rfl⟩ := List.mem_map.mp hb
      omega
    · intro a ha b hb
      rw [List.mem_singleton.mp ha]
      rcases List.mem_append.mp hb with hb | hb
      · have := (memo b).mp hb
        omega
      · obtain ⟨j, hj, rfl⟩ := List.mem_map.mp hb
        have := of_decide_eq_true (List.mem_filter.mp hj).2
        omega
  · rw [mem_irg]
    unfold fullRow
    rw [List.mem_append, List.mem_append, List.mem_singleton, memo, List.mem_map]
    constructor
    · rintro ((rfl | h) | ⟨j, hj, rfl⟩)
      · omega
      · omega
      · have := List.mem_range.mp (List.mem_filter.mp hj).1
        omega
    · intro h
      by_cases c : x < v
      · exact .inl (.inr ⟨h.1, by omega⟩)
      · by_cases c2 : x = ((v : Nat) : Int) + (k : Nat)
        · exact .inl (.inl c2)
        · exact .inr ⟨(x - v).toNat, List.mem_filter.mpr ⟨List.mem_range.mpr (by omega), decide_eq_true (by omega)⟩, by omega⟩
theorem full_perm {os : List (List Int)} {d v : Nat} (ho : Ords os d v) {r : List Int} (h : r ∈ fulls os d v) : r.Perm (irg 0 (v + d)) := full_all ho h
theorem subs_sub : ∀ {s : Nat} {l r : List Int}, r ∈ subs l s → r.Sublist l
  | 0, l, r, h => by
    rw [subs] at h
    rw [List.mem_singleton.mp h]
    exact List.nil_sublist l
  | s + 1, l, r, h => by
    rw [subs] at h
    obtain ⟨k, hk, h⟩ := List.mem_flatMap.mp h
    obtain ⟨q, hq, rfl⟩ := List.mem_map.mp h
    have hk2 : k < l.length := by have := List.mem_range.mp hk; omega
    have h1 : (l.getD k 0 :: q).Sublist (l.getD k 0 :: l.drop (k + 1)) := (subs_sub hq).cons₂ _
    have h2 : l.getD k 0 :: l.drop (k + 1) = l.drop k := by
      rw [List.drop_eq_getElem_cons hk2, List.getD_eq_getElem?_getD, List.getElem?_eq_getElem hk2]
      rfl
    rw [h2] at h1
    exact h1.trans (List.drop_sublist k l)
theorem room_in {os : List (List Int)} {d v : Nat} (ho : Ords os d v) {room : List Int} (hr : room ∈ subs (irg 0 (v + d)) d) {r : List Int} (h : r ∈ fulls os d v) : ∃ p ∈ r, p ∈ room := by
  have hl := subs_mem hr
  have h1 := ho.d1
  cases room with
  | nil => simp at hl; omega
  | cons p room => exact ⟨p, (full_all ho h).mem_iff.mpr ((subs_sub hr).subset List.mem_cons_self), List.mem_cons_self⟩
theorem subs_len {l : List Int} {s : Nat} (h : s ≤ l.length) (h2 : l.length ≤ 12) : (subs l s).length ≤ 4096 := by
  cases s with
  | zero => rw [subs]; decide
  | succ s => exact Nat.le_trans (subsTo_len l s (l.length - s) (Nat.le_refl _)) (pow_small h2)
theorem ok_ub (T : Bi W) (C : Fn W "check_orders" 1 1 Rcheck) (C2 : Fn W "full_orders" 2 1 Rfull) (C3 : Fn W "subsets" 5 2 (Rsubs 4)) (C4 : Fn W "above_in_all" 3 2 Rall) (D : HasDef W "unbeaten_rooms" 32) : Fn W "unbeaten_rooms" 6 1 Rub := by
  refine fn_mk D sc_ub rfl (fun _ _ _ _ _ _ us hl => match us, hl with | [_], _ => rfl) fun f cdv A outer s0 H E hF ds r hR _ => ?_
  obtain ⟨t, os, d, v, rfl, ho, rfl⟩ := hR
  have h1 := ho.d1
  have h2 := ho.d4
  have h4 := ho.v8
  have hrows : (fulls os d v) ≠ [] := List.ne_nil_of_length_pos (by rw [fulls_len, ho.len]; omega)
  refine ⟨_, ss_cons (s_setT hF (x_call C hF (by decide) (xa_cons (xv 0 hF) xa_nil) rfl ⟨t, os, d, v, rfl, ho, rfl⟩) (gs_cons (g_name 1 hF) (gs_cons (g_name 2 hF) gs_nil)))
    (ss_cons (s_set 3 hF (XE.pub (x_call C2 hF (by decide) (xa_cons (xv 0 hF) xa_nil) rfl ⟨t, os, d, v, rfl, ho, rfl⟩)))
    (ss_one (s_ret (o_lcf [4] [("room", 4)] (defScope (top 32)) (subs (irg 0 (v + d)) d) tI (fun room => decide ((abvAll (fulls os d v) room).length = 0)) tI hF
      (i_sq (t := false) hF (XE.pub (x_call C3 hF (by decide) (xa_cons (x_tupRg (n := v + d) T.tuple T.range hF (XD.is (x_add (xv 2 hF) (xv 1 hF)) (by congr 1 <;> omega)) (by omega)) (xa_cons (xv 1 hF) xa_nil)) rfl ⟨irg 0 (v + d), d, rfl, h2, by rw [irg_len]; omega, by rw [irg_len]; omega, rfl⟩)))
      (by have := subs_len (l := irg 0 (v + d)) (s := d) (by rw [irg_len]; omega) (by rw [irg_len]; omega); omega) fun hB room hr => ⟨_, g_name 4 hB, t_one (XB.is (b_cm (cm_eq (x_lenM T.len hB (q_of (x_call C4 hB (by decide) (xa_cons (xv 3 hB) (xa_cons (xv 4 hB) xa_nil)) rfl
        ⟨fulls os d v, room, rfl, hrows, by rw [fulls_len, ho.len]; omega, fun r hr2 => ⟨by have := fulls_rlen ho hr2; omega, room_in ho hr hr2⟩, rfl⟩))) x_int)) ?_), fun _ => xv 4 hB⟩)))), .rt _⟩
  by_cases c : (abvAll (fulls os d v) room).length = 0
  · rw [decide_eq_true c, decide_eq_true (by omega)]
  · rw [decide_eq_false c, decide_eq_false (by omega)]
end K84
/-! part D5 -/
set_option Elab.async false
set_option linter.all false
set_option maxRecDepth 100000
set_option maxHeartbeats 2000000
namespace K84
open PySem PySem.Spec PyProof.Rows L2 Evl FX
variable {W : Wd}
/-! ### a cell of the script -/
def absI (i : Int) : Int := if i < 0 then -i else i
theorem absI_nn (i : Int) : 0 ≤ absI i := by unfold absI; split <;> omega
def mixC (b : Int) (k : Nat) : Int :=
  (((b * 48271 + 11 * (k : Nat) + 7) % 2147483647 * ((b * 48271 + 11 * (k : Nat) + 7) % 2147483647) + 69621 * ((b * 48271 + 11 * (k : Nat) + 7) % 2147483647) + (k : Nat)) * 1000000000039) % 2305843009213693951 / 2
theorem mixC_nn (b : Int) (k : Nat) : 0 ≤ mixC b k := by
  unfold mixC
  exact Int.ediv_nonneg (Int.emod_nonneg _ (by decide)) (by decide)
def cellF (script : List Int) (k : Nat) : Int :=
  if k < script.length then (if 10 ^ 18 ≤ absI (script.getD k 0) then absI (script.getD k 0) - 10 ^ 18 else mixC (absI (script.getD k 0)) k)
  else if 0 < script.length then mixC (absI (script.getD (k % script.length) 0) + 101 * (k : Nat)) k else mixC (17 * (k : Nat) + 5) k
theorem cellF_nn (script : List Int) (k : Nat) : 0 ≤ cellF script k := by
  unfold cellF
  split
  · split
    · rename_i h
      have : (10 : Int) ^ 18 ≤ absI (script.getD k 0) := h
      omega
    · exact mixC_nn _ _
  · split
    · exact mixC_nn _ _
    · exact mixC_nn _ _
theorem sc_cell : FnScope ["script", "k", "cell"] ["script", "k"] (defScope (top 39)) := ⟨rfl, rfl, rfl, by decide +kernel, rfl, by decide +kernel, by decide +kernel⟩
def Rcell : List Dat → Sl → Prop := fun ds s => ∃ (script : List Int) (k : Nat), ds = [sqI false script, nD k] ∧ k ≤ 1000 ∧ s = .dat (.int (cellF script k))
theorem ok_cell (T : Bi W) (D : HasDef W "_law_cell" 39) : Fn W "_law_cell" 1 2 Rcell := by
  refine fn_mk D sc_cell rfl (fun _ _ _ _ _ _ us hl => match us, hl with | [_, _], _ => rfl) fun f cdv A outer s0 H E hF ds r hR _ => ?_
  obtain ⟨script, k, rfl, hk, rfl⟩ := hR
  have hmod : ∀ b : Int, -(2 ^ 64) < (b * 48271 + 11 * (k : Nat) + 7) % 2147483647 ∧ (b * 48271 + 11 * (k : Nat) + 7) % 2147483647 < 2 ^ 64 := fun b => by
    have h1 := Int.emod_nonneg (b * 48271 + 11 * (k : Nat) + 7) (show (2147483647 : Int) ≠ 0 by decide)
    have h2 := Int.emod_lt_of_pos (b * 48271 + 11 * (k : Nat) + 7) (show (0 : Int) < 2147483647 by decide)
    omega
  -- the last two statements
  have fin : ∀ b : Int, ∃ o, XSs (bodyF W ["script", "k", "cell"] "_law_cell" (defScope (top 39)) f cdv A outer s0 H E) ((defBody (top 39)).drop 2) [.dat (sqI false script), .dat (nD k), .dat (.int b)] o ∧ OutRes o (.dat (.int (mixC b k))) := fun b =>
    ⟨_, ss_cons (s_set 2 hF (x_mod (x_int1 T.int hF (x_add (x_add (x_mul (xv 2 hF) x_int (.inr ⟨by decide, by decide⟩)) (x_mul x_int (xv 1 hF) (.inl ⟨by decide, by decide⟩))) x_int)) x_int (by decide)))
      (ss_one (s_ret (x_fdiv (x_mod (x_int1 T.int hF (x_mul (x_add (x_add (x_mul (xv 2 hF) (xv 2 hF) (.inl (hmod b))) (x_mul x_int (xv 2 hF) (.inl ⟨by decide, by decide⟩))) (xv 1 hF)) x_int (.inr ⟨by decide, by decide⟩))) x_int (by decide)) x_int (by decide) (by decide)))), .rt _⟩
  have glue : ∀ {st1 st2 : Stmt} {Γ Γ1 : List Sl} {b : Int}, XS (bodyF W ["script", "k", "cell"] "_law_cell" (defScope (top 39)) f cdv A outer s0 H E) st1 Γ (.nx Γ1) → XS (bodyF W ["script", "k", "cell"] "_law_cell" (defScope (top 39)) f cdv A outer s0 H E) st2 Γ1 (.nx [.dat (sqI false script), .dat (nD k), .dat (.int b)]) →
      ∃ o, XSs (bodyF W ["script", "k", "cell"] "_law_cell" (defScope (top 39)) f cdv A outer s0 H E) (st1 :: st2 :: (defBody (top 39)).drop 2) Γ o ∧ OutRes o (.dat (.int (mixC b k))) := fun {_ _ _ _ b} h1 h2 => by
    obtain ⟨o, h3, h4⟩ := fin b
    exact ⟨o, ss_cons h1 (ss_cons h2 h3), h4⟩
  unfold cellF
  by_cases c : k < script.length
  · rw [if_pos c]
    have hget : atI (script.map Dat.int) ((k : Nat) : Int) = some (.int (script.getD k 0)) := atI_getD c
    by_cases c2 : 10 ^ 18 ≤ absI (script.getD k 0)
    · rw [if_pos c2]
      exact ⟨_, ss_cons (s_set 2 hF (x_add (x_mul x_int (xv 1 hF) (.inl ⟨by decide, by decide⟩)) x_int)) (ss_stop (s_ifT (XB.is (b_cm (cm_lt (xv 1 hF) (x_lenM T.len hF (q_of (xv 0 hF))))) (decide_eq_true (by omega)))
        (ss_cons (s_set 2 hF (x_abs T.abs hF (x_ix hF (q_of (xv 0 hF)) (xv 1 hF) hget))) (ss_one (s_ifT (XB.is (b_cm (cm_ge (xv 2 hF) (x_pow x_int x_int ⟨by decide, by decide, by decide⟩))) (decide_eq_true c2))
          (ss_one (s_ret (x_sub (xv 2 hF) (x_pow x_int x_int ⟨by decide, by decide, by decide⟩))))))))), .rt _⟩
    · rw [if_neg c2]
      exact glue (s_set 2 hF (x_add (x_mul x_int (xv 1 hF) (.inl ⟨by decide, by decide⟩)) x_int)) (s_ifT (XB.is (b_cm (cm_lt (xv 1 hF) (x_lenM T.len hF (q_of (xv 0 hF))))) (decide_eq_true (by omega)))
        (ss_cons (s_set 2 hF (x_abs T.abs hF (x_ix hF (q_of (xv 0 hF)) (xv 1 hF) hget))) (ss_one (s_ifN (XB.is (b_cm (cm_ge (xv 2 hF) (x_pow x_int x_int ⟨by decide, by decide, by decide⟩))) (decide_eq_false c2))))))
  · rw [if_neg c]
    by_cases c2 : 0 < script.length
    · rw [if_pos c2]
      have hget : atI (script.map Dat.int) (((k % script.length : Nat)) : Int) = some (.int (script.getD (k % script.length) 0)) := atI_getD (Nat.mod_lt _ c2)
      exact glue (s_set 2 hF (x_add (x_mul x_int (xv 1 hF) (.inl ⟨by decide, by decide⟩)) x_int)) (s_ifF (XB.is (b_cm (cm_lt (xv 1 hF) (x_lenM T.len hF (q_of (xv 0 hF))))) (decide_eq_false (by omega)))
        (ss_one (s_ifT (XB.is (b_cm (cm_gt (x_lenM T.len hF (q_of (xv 0 hF))) x_int)) (decide_eq_true (by omega))) (ss_one (s_set 2 hF (x_add (x_abs T.abs hF (x_ix hF (q_of (xv 0 hF)) (x_mod (x_int1 T.int hF (xv 1 hF)) (x_lenM T.len hF (q_of (xv 0 hF))) (by omega)) hget)) (x_mul x_int (xv 1 hF) (.inl ⟨by decide, by decide⟩))))))))
    · rw [if_neg c2]
      exact glue (s_set 2 hF (x_add (x_mul x_int (xv 1 hF) (.inl ⟨by decide, by decide⟩)) x_int)) (s_ifF (XB.is (b_cm (cm_lt (xv 1 hF) (x_lenM T.len hF (q_of (xv 0 hF))))) (decide_eq_false (by omega)))
        (ss_one (s_ifN (XB.is (b_cm (cm_gt (x_lenM T.len hF (q_of (xv 0 hF))) x_int)) (decide_eq_false (by omega))))))
end K84
/-! part D6 -/
set_option Elab.async false
set_option linter.all false
set_option maxRecDepth 100000
set_option maxHeartbeats 4000000
namespace K84
open PySem PySem.Spec PyProof.Rows L2 Evl FX
variable {W : Wd}
/-! ### the same -/
inductive Same : Nat → Dat → Dat → Prop
  | non {n : Nat} : Same n .non .non
  | bl {n : Nat} (b : Bool) : Same n (.bl b) (.bl b)
  | int {n : Nat} (i : Int) : Same n (.int i) (.int i)
  | str {n : Nat} (x : Str) : Same n (.str x) (.str x)
  | sq {n : Nat} {t : Bool} {xs ds : List Dat} : xs.length = ds.length → ds.length ≤ 100000 → (∀ (i : Nat) (a d : Dat), xs[i]? = some a → ds[i]? = some d → Same n a d) → Same (n + 1) (.sq t xs) (.sq t ds)
  | row {n : Nat} {ns : List Int} {ds : List Dat} : ns.length = ds.length → ds.length ≤ 100000 → (∀ (i : Nat) (a d : Dat), (ns.map Dat.int)[i]? = some a → ds[i]? = some d → Same n a d) → Same (n + 1) (.row ns) (.sq true ds)
theorem sc_same : FnScope ["actual", "due", "k"] ["actual", "due"] (defScope (top 40)) := ⟨rfl, rfl, rfl, by decide +kernel, rfl, by decide +kernel, by decide +kernel⟩
def Rsame (n : Nat) : List Dat → Sl → Prop := fun ds s => ∃ a d : Dat, ds = [a, d] ∧ Same n a d ∧ s = .dat (.bl true)
abbrev samF (W : Wd) (f : Addr) (cdv : Value) (A : Around) (outer : List PySem.Env) (s0 : Shared) (H : Hp) (E : XK) : Unit → Cx := bodyF W ["actual", "due", "k"] "_law_same" (defScope (top 40)) f cdv A outer s0 H E
theorem same_tail {k : Nat} {f : Addr} {cdv : Value} {A : Around} {outer : List PySem.Env} {s0 : Shared} {H : Hp} {E : XK} {n : Nat} {xs ds : List Dat} {t : Bool} {a : Dat} (T : Bi W) (C : Fn W "_law_same" (n + 1) 2 (Rsame n)) (hk : n + 1 ≤ k) (hF : Fam W k ["actual", "due", "k"] (samF W f cdv A outer s0 H E)) (hl : ds.length ≤ 100000)
    (hq : ∀ (p : Pos) (Γ : List Sl), Γ[0]? = some (.dat a) → XQ W (samF W f cdv A outer s0 H E) (.Name "actual" p) Γ t xs) (he : xs.length = ds.length) (hs : ∀ (i : Nat) (a d : Dat), xs[i]? = some a → ds[i]? = some d → Same n a d) :
    ∃ o, XSs (samF W f cdv A outer s0 H E) ((defBody (top 40)).drop 5) [.dat a, .dat (.sq t ds), .no] o ∧ OutRes o (.dat (.bl true)) := by
  refine ⟨_, ss_cons (s_forN (n := ds.length) [2] (fun _ => [.dat a, .dat (.sq t ds), .no]) hF (i_rngN T.range hF (x_len T.len hF (q_of (xv 1 hF))) hl) (.same (.same (.same .nil))) ?_) (ss_one (s_ret x_bl)), .rt _⟩
  intro i hi
  have h1 : ds[i]? = some ds[i] := List.getElem?_eq_getElem hi
  have h2 : xs[i]? = some (xs[i]'(by omega)) := List.getElem?_eq_getElem (by omega)
  exact ⟨_, _, g_name 2 hF, ss_one (s_ifN (XB.is (b_not (b_val (x_call C hF hk (xa_cons (x_ix hF (hq _ _ rfl) (xv 2 hF) (atI_nat h2)) (xa_cons (x_ix hF (q_of (xv 1 hF)) (xv 2 hF) (atI_nat h1)) xa_nil)) rfl ⟨_, _, rfl, hs i _ _ h2 h1, rfl⟩))) rfl)), _, .inl rfl, .same (.same (.drop .nil))⟩
theorem step_same (T : Bi W) (D : HasDef W "_law_same" 40) (n : Nat) (C : ∀ m, n = m + 1 → Fn W "_law_same" (m + 1) 2 (Rsame m)) : Fn W "_law_same" (n + 1) 2 (Rsame n) := by
  refine fn_mk D sc_same rfl (fun _ _ _ _ _ _ us hl => match us, hl with | [_, _], _ => rfl) fun f cdv A outer s0 H E hF ds r hR _ => ?_
  obtain ⟨a, d, rfl, hs, rfl⟩ := hR
  cases hs with
  | non => exact ⟨_, ss_stop (s_ifT (XB.is (b_cm (cm_isN (xv 1 hF) x_non)) rfl) (ss_one (s_ret (x_cm (cm_isN (xv 0 hF) x_non))))), .rt _⟩
  | bl b => exact ⟨_, ss_cons (s_ifN (XB.is (b_cm (cm_isN (xv 1 hF) x_non)) rfl)) (ss_stop (s_ifT (b_val (x_isi "bool" "bool" true T.isinstance hF (xv 1 hF) T.bool))
      (ss_one (s_ret (XD.is (x_and (x_isi "bool" "bool" true T.isinstance hF (xv 0 hF) T.bool) fun _ => x_one (x_cm (cm_eqB (xv 0 hF) (xv 1 hF)))) (by rw [decide_eq_true rfl]; rfl)))))), .rt _⟩
  | int i => exact ⟨_, ss_cons (s_ifN (XB.is (b_cm (cm_isN (xv 1 hF) x_non)) rfl)) (ss_cons (s_ifN (b_val (x_isi "int" "bool" false T.isinstance hF (xv 1 hF) T.bool))) (ss_stop (s_ifT (b_val (x_isi "int" "int" true T.isinstance hF (xv 1 hF) T.int))
      (ss_one (s_ret (XD.is (x_and (x_isi "int" "int" true T.isinstance hF (xv 0 hF) T.int) fun _ => x_and (x_not (x_isi "int" "bool" false T.isinstance hF (xv 0 hF) T.bool)) fun _ => x_one (x_cm (cm_eq (xv 0 hF) (xv 1 hF)))) (by rw [decide_eq_true rfl]; rfl))))))), .rt _⟩
  | str x => exact ⟨_, ss_cons (s_ifN (XB.is (b_cm (cm_isN (xv 1 hF) x_non)) rfl)) (ss_cons (s_ifN (b_val (x_isi "str" "bool" false T.isinstance hF (xv 1 hF) T.bool))) (ss_cons (s_ifN (b_val (x_isi "str" "int" false T.isinstance hF (xv 1 hF) T.int))) (ss_stop (s_ifT (b_val (x_isi "str" "str" true T.isinstance hF (xv 1 hF) T.str))
      (ss_one (s_ret (XD.is (x_and (x_isi "str" "str" true T.isinstance hF (xv 0 hF) T.str) fun _ => x_one (x_cm (cm_eqS (xv 0 hF) (xv 1 hF)))) (by rw [decide_eq_true rfl]; rfl)))))))), .rt _⟩
  | @sq m t xs ds he hl hs =>
    obtain ⟨o, h1, h2⟩ := same_tail (t := t) (a := .sq t xs) T (C m rfl) (Nat.le_refl _) hF hl (fun p Γ h => q_of (xv 0 hF h)) he hs
    cases t with
    | true => exact ⟨o, ss_cons (s_ifN (XB.is (b_cm (cm_isN (xv 1 hF) x_non)) rfl)) (ss_cons (s_ifN (b_val (x_isi "tuple" "bool" false T.isinstance hF (xv 1 hF) T.bool))) (ss_cons (s_ifN (b_val (x_isi "tuple" "int" false T.isinstance hF (xv 1 hF) T.int)))
        (ss_cons (s_ifN (b_val (x_isi "tuple" "str" false T.isinstance hF (xv 1 hF) T.str))) (ss_cons (s_ifT (b_val (x_isi "tuple" "tuple" true T.isinstance hF (xv 1 hF) T.tuple))
          (ss_one (s_ifN (XB.is (b_w (w_or (b_not (b_val (x_isi "tuple" "tuple" true T.isinstance hF (xv 0 hF) T.tuple))) fun _ => w_or1 (b_cm (cm_ne (x_len T.len hF (q_of (xv 0 hF))) (x_len T.len hF (q_of (xv 1 hF))))))) (by rw [decide_eq_false (by omega)]; rfl))))) h1)))), h2⟩
    | false => exact ⟨o, ss_cons (s_ifN (XB.is (b_cm (cm_isN (xv 1 hF) x_non)) rfl)) (ss_cons (s_ifN (b_val (x_isi "list" "bool" false T.isinstance hF (xv 1 hF) T.bool))) (ss_cons (s_ifN (b_val (x_isi "list" "int" false T.isinstance hF (xv 1 hF) T.int)))
        (ss_cons (s_ifN (b_val (x_isi "list" "str" false T.isinstance hF (xv 1 hF) T.str))) (ss_cons (s_ifF (b_val (x_isi "list" "tuple" false T.isinstance hF (xv 1 hF) T.tuple))
          (ss_one (s_ifN (XB.is (b_w (w_or (b_not (b_val (x_isi "list" "list" true T.isinstance hF (xv 0 hF) T.list))) fun _ => w_or1 (b_cm (cm_ne (x_len T.len hF (q_of (xv 0 hF))) (x_len T.len hF (q_of (xv 1 hF))))))) (by rw [decide_eq_false (by omega)]; rfl))))) h1)))), h2⟩
  | @row m ns ds he hl hs =>
    obtain ⟨o, h1, h2⟩ := same_tail (t := true) (a := .row ns) T (C m rfl) (Nat.le_refl _) hF hl (fun p Γ h => q_row (xv 0 hF h)) (by rw [List.length_map]; exact he) hs
    exact ⟨o, ss_cons (s_ifN (XB.is (b_cm (cm_isN (xv 1 hF) x_non)) rfl)) (ss_cons (s_ifN (b_val (x_isi "tuple" "bool" false T.isinstance hF (xv 1 hF) T.bool))) (ss_cons (s_ifN (b_val (x_isi "tuple" "int" false T.isinstance hF (xv 1 hF) T.int)))
        (ss_cons (s_ifN (b_val (x_isi "tuple" "str" false T.isinstance hF (xv 1 hF) T.str))) (ss_cons (s_ifT (b_val (x_isi "tuple" "tuple" true T.isinstance hF (xv 1 hF) T.tuple))
          (ss_one (s_ifN (XB.is (b_w (w_or (b_not (b_val (x_isi "tuple" "tuple" true T.isinstance hF (xv 0 hF) T.tuple))) fun _ => w_or1 (b_cm (cm_ne (x_lenM T.len hF (q_row (xv 0 hF))) (x_len T.len hF (q_of (xv 1 hF))))))) (by rw [decide_eq_false (by omega)]; rfl))))) h1)))), h2⟩
theorem ok_same (T : Bi W) (D : HasDef W "_law_same" 40) : ∀ n : Nat, Fn W "_law_same" (n + 1) 2 (Rsame n)
  | 0 => step_same T D 0 fun m h => nomatch h
  | n + 1 => step_same T D (n + 1) fun m h => by cases h; exact ok_same T D n
end K84
/-! part D7 -/
set_option Elab.async false
set_option linter.all false
set_option maxRecDepth 100000
set_option maxHeartbeats 4000000
namespace K84
open PySem PySem.Spec PyProof.Rows L2 Evl FX
variable {W : Wd}
/-! ### an order by a cell -/
structure OSt where
  left : List Int
  row : List Int
  cell : Int
def oStep (n : Nat) (s : OSt) (k : Nat) : OSt :=
  ⟨s.left.eraseIdx (s.cell % ((n : Nat) - (k : Nat) : Int)).toNat, s.row ++ [s.left.getD (s.cell % ((n : Nat) - (k : Nat) : Int)).toNat 0], s.cell / ((n : Nat) - (k : Nat) : Int)⟩
def oAt (c : Int) (n : Nat) : Nat → OSt
  | 0 => ⟨irg 0 n, [], c⟩
  | k + 1 => oStep n (oAt c n k) k
def orderF (c : Int) (n : Nat) : List Int := (oAt c n n).row
theorem oAt_ok {c : Int} {n : Nat} (hc : 0 ≤ c) : ∀ k, k ≤ n → (oAt c n k).left.length = n - k ∧ ((oAt c n k).row ++ (oAt c n k).left).Perm (irg 0 n) ∧ (oAt c n k).row.length = k ∧ 0 ≤ (oAt c n k).cell
  | 0, _ => ⟨irg_len 0 n, List.Perm.refl _, rfl, hc⟩
  | k + 1, h => by
    obtain ⟨h1, h2, h3, h4⟩ := oAt_ok (n := n) hc k (by omega)
    have hpos : (0 : Int) < ((n : Nat) - (k : Nat) : Int) := by omega
    have m1 := Int.emod_nonneg (oAt c n k).cell (show ((n : Nat) - (k : Nat) : Int) ≠ 0 by omega)
    have m2 := Int.emod_lt_of_pos (oAt c n k).cell hpos
    have hm : ((oAt c n k).cell % ((n : Nat) - (k : Nat) : Int)).toNat < (oAt c n k).left.length := by omega
    refine ⟨?_, ?_, ?_, ?_⟩
    · show ((oAt c n k).left.eraseIdx _).length = _
      rw [List.length_eraseIdx_of_lt hm]
      omega
    · show (((oAt c n k).row ++ [_]) ++ (oAt c n k).left.eraseIdx _).Perm _
      refine List.Perm.trans ?_ h2
      rw [List.append_assoc]
      refine List.Perm.append_left _ ?_
      have := M84.erase_perm (l := (oAt c n k).left) (i := ((oAt c n k).cell % ((n : Nat) - (k : Nat) : Int)).toNat) (x := (oAt c n k).left.getD ((oAt c n k).cell % ((n : Nat) - (k : Nat) : Int)).toNat 0) (by rw [List.getD_eq_getElem?_getD, List.getElem?_eq_getElem hm]; rfl)
      exact this.symm
    · show ((oAt c n k).row ++ [_]).length = _
      rw [List.length_append, h3]
      rfl
    · exact Int.ediv_nonneg h4 (by omega)
theorem orderF_ord {c : Int} {n : Nat} (hc : 0 ≤ c) : isOrd n (orderF c n) := by
  obtain ⟨h1, h2, _, _⟩ := oAt_ok (n := n) hc n (Nat.le_refl n)
  have : (oAt c n n).left = [] := List.length_eq_zero_iff.mp (by rw [h1, Nat.sub_self])
  rw [this, List.append_nil] at h2
  exact h2
theorem sc_order : FnScope ["cell", "n", "left", "row", "k", "size"] ["cell", "n"] (defScope (top 41)) := ⟨rfl, rfl, rfl, by decide +kernel, rfl, by decide +kernel, by decide +kernel⟩
def Rorder : List Dat → Sl → Prop := fun ds s => ∃ (c : Int) (n : Nat), ds = [.int c, nD n] ∧ 0 ≤ c ∧ n ≤ 1000 ∧ s = .mL ((orderF c n).map .int)
theorem ok_order (T : Bi W) (D : HasDef W "_law_order" 41) : Fn W "_law_order" 1 2 Rorder := by
  refine fn_mk D sc_order rfl (fun _ _ _ _ _ _ us hl => match us, hl with | [_, _], _ => rfl) fun f cdv A outer s0 H E hF ds r hR _ => ?_
  obtain ⟨c, n, rfl, hc, hn, rfl⟩ := hR
  refine ⟨_, ss_cons (s_set 2 hF (o_listRg T.list T.range hF (xv 1 hF) (by omega))) (ss_cons (s_set 3 hF (o_lst xa_nil))
    (ss_cons (s_forN (n := n) [4] (fun k => [.dat (.int (oAt c n k).cell), .dat (nD n), .mL ((oAt c n k).left.map .int), .mL ((oAt c n k).row.map .int), .no, .no]) hF (i_rngN T.range hF (xv 1 hF) (by omega)) (.same (.same (.same (.same (.same (.same .nil)))))) ?_)
      (ss_one (s_retV 3 hF rfl (by intro z; cases z))))), .rt _⟩
  intro k hk
  obtain ⟨h1, h2, h3, h4⟩ := oAt_ok (n := n) hc k (by omega)
  have hpos : (0 : Int) < ((n : Nat) - (k : Nat) : Int) := by omega
  have m1 := Int.emod_nonneg (oAt c n k).cell (show ((n : Nat) - (k : Nat) : Int) ≠ 0 by omega)
  have m2 := Int.emod_lt_of_pos (oAt c n k).cell hpos
  have hm : ((oAt c n k).cell % ((n : Nat) - (k : Nat) : Int)).toNat < (oAt c n k).left.length := by omega
  refine ⟨_, _, g_name 4 hF, ss_cons (s_set 5 hF (x_sub (xv 1 hF) (xv 4 hF))) (ss_cons (s_appendPop (m := (oAt c n k).cell % ((n : Nat) - (k : Nat) : Int)) (mm := ((oAt c n k).cell % ((n : Nat) - (k : Nat) : Int)).toNat) (d := .int ((oAt c n k).left.getD ((oAt c n k).cell % ((n : Nat) - (k : Nat) : Int)).toNat 0)) 3 2 (by decide) hF rfl rfl
      (x_mod (x_int1 T.int hF (xv 0 hF)) (xv 5 hF) hpos) m1 (by omega) (by omega) ?_ (by rw [List.length_map, h3]; omega)) (ss_one (s_set 0 hF (x_fdiv (xv 0 hF) (xv 5 hF) hpos (by omega))))), _, .inl rfl, ?_⟩
  · rw [List.getElem?_map, List.getD_eq_getElem?_getD, List.getElem?_eq_getElem hm]
    rfl
  · show Wk [.dat (.int (oStep n (oAt c n k) k).cell), _, .mL (((oAt c n k).left.map Dat.int).eraseIdx _), .mL ((oAt c n k).row.map Dat.int ++ [_]), _, _] _
    rw [map_erase, show (oAt c n k).row.map Dat.int ++ [.int ((oAt c n k).left.getD ((oAt c n k).cell % ((n : Nat) - (k : Nat) : Int)).toNat 0)] = (oAt c n (k + 1)).row.map Dat.int by rw [oAt, oStep, List.map_append]; rfl]
    exact .same (.same (.same (.same (.drop (.drop .nil)))))
end K84
/-! part D8 -/
set_option Elab.async false
set_option linter.all false
set_option maxRecDepth 100000
set_option maxHeartbeats 4000000
namespace K84
open PySem PySem.Spec PyProof.Rows L2 Evl FX
variable {W : Wd}
/-! ### the script's orders -/
def oSet (way : Int) (os : List (List Int)) (k : Nat) : List (List Int) := if way = 1 then os.set k (os.getD (k - 1) []) else if way = 2 then os.set k (os.getD (k - 1) []).reverse else os
def oTo (script : List Int) (d v : Nat) : Nat → List (List Int)
  | 0 => (List.range d).map fun k => orderF (cellF script (2 + k)) v
  | t + 1 => oSet (cellF script 6 % 4) (oTo script d v t) (1 + t)
def ordersF (script : List Int) (d v : Nat) : List (List Int) := oTo script d v (d - 1)
theorem oTo_ok (script : List Int) (d v : Nat) : ∀ t, (oTo script d v t).length = d ∧ (t < d → ∀ o ∈ oTo script d v t, isOrd v o)
  | 0 => ⟨by rw [oTo, List.length_map, List.length_range], fun _ o ho => by
    rw [oTo] at ho
    obtain ⟨k, _, rfl⟩ := List.mem_map.mp ho
    exact orderF_ord (cellF_nn _ _)⟩
  | t + 1 => by
    obtain ⟨h1, h2⟩ := oTo_ok script d v t
    have key : ∀ (x : List Int), isOrd v x → (∀ o ∈ (oTo script d v t), isOrd v o) → ∀ o ∈ (oTo script d v t).set (1 + t) x, isOrd v o := fun x hx hh o ho => (List.mem_or_eq_of_mem_set ho).elim (hh o) fun e => e ▸ hx
    have hg : t < d → (oTo script d v t).getD (1 + t - 1) [] ∈ oTo script d v t := fun ht => by
      rw [Nat.add_sub_cancel_left, List.getD_eq_getElem?_getD, List.getElem?_eq_getElem (by omega)]
      exact List.getElem_mem _
    rw [oTo]
    unfold oSet
    split
    · exact ⟨by rw [List.length_set, h1], fun ht => key _ (h2 (by omega) _ (hg (by omega))) (h2 (by omega))⟩
    · split
      · exact ⟨by rw [List.length_set, h1], fun ht => key _ ((List.reverse_perm _).trans (h2 (by omega) _ (hg (by omega)))) (h2 (by omega))⟩
      · exact ⟨h1, fun ht => h2 (by omega)⟩
theorem sc_orders : FnScope ["script", "d", "v", "orders", "k", "way"] ["script", "d", "v"] (defScope (top 45)) := ⟨rfl, rfl, rfl, by decide +kernel, rfl, by decide +kernel, by decide +kernel⟩
def Rorders : List Dat → Sl → Prop := fun ds s => ∃ (script : List Int) (d v : Nat), ds = [sqI false script, nD d, nD v] ∧ 1 ≤ d ∧ d ≤ 100 ∧ v ≤ 100 ∧ s = .mL ((ordersF script d v).map lI)
theorem ok_orders (T : Bi W) (C : Fn W "_law_cell" 1 2 Rcell) (C2 : Fn W "_law_order" 1 2 Rorder) (D : HasDef W "_law_orders" 45) : Fn W "_law_orders" 2 3 Rorders := by
  refine fn_mk D sc_orders rfl (fun _ _ _ _ _ _ us hl => match us, hl with | [_, _, _], _ => rfl) fun f cdv A outer s0 H E hF ds r hR _ => ?_
  obtain ⟨script, d, v, rfl, hd1, hd, hv, rfl⟩ := hR
  refine ⟨_, ss_cons (s_setLcm 3 [4] [("k", 4)] (defScope (top 45)) (List.range d) nD (fun k => lI (orderF (cellF script (2 + k)) v)) hF (i_rngN T.range hF (xv 1 hF) (by omega)) (by rw [List.length_range]; omega)
      fun hB k hk => ⟨_, g_name 4 hB, XE.pub (x_call C2 hB (by decide) (xa_cons (x_call C hB (by decide) (xa_cons (xv 0 hB) (xa_cons (XD.is (x_add x_int (xv 4 hB)) (d := .int (2 + (k : Nat))) (da := nD (2 + k)) (by congr 1 <;> omega)) xa_nil)) rfl ⟨script, 2 + k, rfl, by have := List.mem_range.mp hk; omega, rfl⟩) (xa_cons (xv 2 hB) xa_nil)) rfl ⟨_, v, rfl, cellF_nn _ _, by omega, rfl⟩)⟩)
    (ss_cons (s_set 5 hF (x_mod (x_int1 T.int hF (x_call C hF (by decide) (xa_cons (xv 0 hF) (xa_cons x_int xa_nil)) rfl ⟨script, 6, rfl, by omega, rfl⟩)) x_int (by decide)))
    (ss_cons (s_for (is := [4]) (fun t => [.dat (sqI false script), .dat (nD d), .dat (nD v), .mL ((oTo script d v t).map lI), .no, .dat (.int (cellF script 6 % 4))]) hF (i_rngNN (m := 1) (n := d) T.range hF x_int (xv 1 hF) (by omega) (by omega)) ?_ ?_)
      (ss_one (s_retV 3 hF rfl (by intro z; cases z))))), ?_⟩
  · show Wk [_, _, _, .mL ((List.range d).map _), _, _] [_, _, _, .mL (((List.range d).map _).map _), _, _]
    rw [List.map_map]
    exact .same (.same (.same (.same (.same (.same .nil)))))
  · intro t dd hdd
    obtain ⟨j, hj, rfl⟩ := map_get hdd
    have hj2 := (List.getElem?_eq_some_iff.mp hj).1
    rw [List.length_range] at hj2
    rw [List.getElem?_range hj2] at hj
    cases hj
    obtain ⟨o1, o2⟩ := oTo_ok script d v t
    have hprev : (oTo script d v t)[t]? = some ((oTo script d v t).getD (1 + t - 1) []) := by
      rw [Nat.add_sub_cancel_left, List.getD_eq_getElem?_getD, List.getElem?_eq_getElem (by omega)]
      rfl
    have hix : atI ((oTo script d v t).map lI) (((1 + t : Nat) : Int) - 1) = some (lI ((oTo script d v t).getD (1 + t - 1) [])) := by
      rw [show ((1 + t : Nat) : Int) - 1 = (t : Nat) by omega]
      exact atI_map hprev
    have hset : ∀ x : List Int, ((oTo script d v t).map lI).set (1 + t) (lI x) = ((oTo script d v t).set (1 + t) x).map lI := fun x => (List.map_set ..).symm
    by_cases c1 : cellF script 6 % 4 = 1
    · have e : oTo script d v (t + 1) = (oTo script d v t).set (1 + t) ((oTo script d v t).getD (1 + t - 1) []) := by rw [oTo, oSet, if_pos c1]
      refine ⟨_, _, g_name 4 hF, ss_cons (s_ifT (XB.is (b_cm (cm_eq (xv 5 hF) x_int)) (decide_eq_true c1)) (ss_one (s_setIx (jj := 1 + t) 3 hF rfl (xv 4 hF) (XE.pub (o_list T.list hF (q_of (x_ix hF (q_var 3 hF) (x_sub (xv 4 hF) x_int) hix)))) rfl (by rw [List.length_map]; omega))))
        (ss_one (s_ifN (XB.is (b_cm (cm_eq (xv 5 hF) x_int)) (decide_eq_false (by omega))))), _, .inl rfl, ?_⟩
      show Wk [_, _, _, .mL (((oTo script d v t).map lI).set (1 + t) (lI _)), _, _] _
      rw [hset, ← e]
      exact .same (.same (.same (.same (.drop (.same .nil)))))
    · by_cases c2 : cellF script 6 % 4 = 2
      · have e : oTo script d v (t + 1) = (oTo script d v t).set (1 + t) ((oTo script d v t).getD (1 + t - 1) []).reverse := by rw [oTo, oSet, if_neg c1, if_pos c2]
        refine ⟨_, _, g_name 4 hF, ss_cons (s_ifN (XB.is (b_cm (cm_eq (xv 5 hF) x_int)) (decide_eq_false c1))) (ss_one (s_ifT (XB.is (b_cm (cm_eq (xv 5 hF) x_int)) (decide_eq_true c2)) (ss_one (s_setIx (jj := 1 + t) 3 hF rfl (xv 4 hF) (XE.pub (o_revL hF (q_of (x_ix hF (q_var 3 hF) (x_sub (xv 4 hF) x_int) hix)))) rfl (by rw [List.length_map]; omega))))), _, .inl rfl, ?_⟩
        show Wk [_, _, _, .mL (((oTo script d v t).map lI).set (1 + t) (.sq false (((oTo script d v t).getD (1 + t - 1) []).map Dat.int).reverse)), _, _] _
        rw [← List.map_reverse, show Dat.sq false ((((oTo script d v t).getD (1 + t - 1) []).reverse).map Dat.int) = lI ((oTo script d v t).getD (1 + t - 1) []).reverse from rfl, hset, ← e]
        exact .same (.same (.same (.same (.drop (.same .nil)))))
      · have e : oTo script d v (t + 1) = oTo script d v t := by rw [oTo, oSet, if_neg c1, if_neg c2]
        refine ⟨_, _, g_name 4 hF, ss_cons (s_ifN (XB.is (b_cm (cm_eq (xv 5 hF) x_int)) (decide_eq_false c1))) (ss_one (s_ifN (XB.is (b_cm (cm_eq (xv 5 hF) x_int)) (decide_eq_false c2)))), _, .inl rfl, ?_⟩
        rw [e]
        exact .same (.same (.same (.same (.drop (.same .nil)))))
  · rw [List.length_map, List.length_range]
    exact .rt _
/-! ### the law's full rows -/
theorem sc_lfull : FnScope ["orders", "v", "rows", "k", "j"] ["orders", "v"] (defScope (top 46)) := ⟨rfl, rfl, rfl, by decide +kernel, rfl, by decide +kernel, by decide +kernel⟩
def Rlfull : List Dat → Sl → Prop := fun ds s => ∃ (os : List (List Int)) (v : Nat), ds = [.sq false (os.map lI), nD v] ∧ os.length ≤ 100 ∧ v ≤ 100 ∧ (∀ o ∈ os, o.length ≤ 100) ∧ s = .mL ((fulls os os.length v).map lI)
theorem ok_lfull (T : Bi W) (D : HasDef W "_law_full" 46) : Fn W "_law_full" 1 2 Rlfull := by
  refine fn_mk D sc_lfull rfl (fun _ _ _ _ _ _ us hl => match us, hl with | [_, _], _ => rfl) fun f cdv A outer s0 H E hF ds r hR _ => ?_
  obtain ⟨os, v, rfl, hd, hv, ho, rfl⟩ := hR
  refine ⟨_, ss_cons (s_set 2 hF (o_lst xa_nil)) (ss_cons (s_forN (n := os.length) [3] (fun j => [.dat (.sq false (os.map lI)), .dat (nD v), .mL (((fulls os os.length v).take j).map lI), .no, .no]) hF (i_rngN T.range hF (x_lenM T.len hF (q_of (xv 0 hF))) (by omega)) (.same (.same (.same (.same (.same .nil))))) ?_)
    (ss_one (s_retV 2 hF rfl (by intro z; cases z)))), ?_⟩
  · intro k hk
    have hj : os[k]? = some os[k] := List.getElem?_eq_getElem hk
    have hix : atI (os.map lI) ((k : Nat) : Int) = some (lI os[k]) := atI_map hj
    have hol := ho _ (List.mem_of_getElem? hj)
    have hg := fulls_get (d := os.length) (v := v) hj
    have hfl := List.length_filter_le (fun (m : Nat) => decide ((m : Int) ≠ (k : Nat))) (List.range os.length)
    rw [List.length_range] at hfl
    refine ⟨_, _, g_name 3 hF, ss_one (s_append (d := lI (fullRow os.length v k os[k])) 2 hF rfl (XD.is (XE.pub (o_catL hF (q_mL (o_catL hF (q_mL (o_lst (xa_cons (x_add (xv 1 hF) (xv 3 hF)) xa_nil))) (q_of (x_ix hF (q_of (xv 0 hF)) (xv 3 hF) hix)) ?_))
        (q_mL (o_lcf [4] [("j", 4)] (defScope (top 46)) (List.range os.length) nD (fun (m : Nat) => decide ((m : Int) ≠ (k : Nat))) (fun (m : Nat) => .int (((v : Nat) : Int) + (m : Nat))) hF (i_rngN T.range hF (x_lenM T.len hF (q_of (xv 0 hF))) (by omega)) (by rw [List.length_range]; omega)
          fun hB m hm => ⟨_, g_name 4 hB, t_one (b_cm (cm_ne (xv 4 hB) (xv 3 hB))), fun _ => x_add (xv 1 hB) (xv 4 hB)⟩)) ?_)) ?_) ?_), _, .inl rfl, ?_⟩
    · rw [List.length_map]
      show 1 + _ ≤ _
      omega
    · rw [List.length_append, List.length_map, List.length_map]
      show 1 + _ + _ ≤ _
      omega
    · show _ = Dat.sq false (List.map Dat.int (fullRow _ _ _ _))
      unfold fullRow
      rw [List.map_append, List.map_append, List.map_map]
      rfl
    · rw [List.length_map, List.length_take, fulls_len]
      omega
    · have e : ((fulls os os.length v).take k).map lI ++ [lI (fullRow os.length v k os[k])] = ((fulls os os.length v).take (k + 1)).map lI := by
        rw [List.take_add_one, hg, Option.toList_some, List.map_append]
        rfl
      show Wk [_, _, .mL (((fulls os os.length v).take k).map lI ++ [lI (fullRow os.length v k os[k])]), _, _] _
      rw [e]
      exact .same (.same (.same (.drop (.drop .nil))))
  · rw [show (fulls os os.length v).take os.length = fulls os os.length v from List.take_of_length_le (by rw [fulls_len]; exact Nat.le_refl _)]
    exact .rt _
/-! ### the law's least row -/
def retScope : List Stmt → Scope
  | [.Return (some (.ListComp _ _ sc _)) _] => sc
  | _ => { kind := .function, names := [], isGenerator := false, isCoroutine := false }
theorem sc_lleast : FnScope ["rows", "room", "p", "row"] ["rows", "room"] (defScope (top 47)) := ⟨rfl, rfl, rfl, by decide +kernel, rfl, by decide +kernel, by decide +kernel⟩
def Rlleast : List Dat → Sl → Prop := fun ds s => ∃ (rows : List (List Int)) (room : List Int), ds = [.sq false (rows.map lI), tI room] ∧ rows.length ≤ 100 ∧ room.length ≤ 100 ∧ room ≠ [] ∧ (∀ r ∈ rows, r.length ≤ 1000 ∧ ∀ p ∈ room, p ∈ r) ∧ s = .mL ((leastR rows room).map .int)
theorem idx_ne {x y : Int} {l : List Int} (h : x ≠ y) : (x :: l).idxOf y = l.idxOf y + 1 := by
  rw [List.idxOf_cons, beq_eq_false_iff_ne.mpr h]
  rfl
/-- the first of a room in a row stands at the least place -/
theorem fst_least {row room : List Int} (h : ∃ p ∈ row, p ∈ room) : ∀ p ∈ room, p ∈ row → row.idxOf (fstP row room) ≤ row.idxOf p := by
  intro p hp hr
  unfold fstP
  clear h
  induction row with
  | nil => simp at hr
  | cons x row ih =>
    rw [List.filter_cons]
    by_cases c : x ∈ room
    · rw [if_pos (decide_eq_true c), List.headD_cons, List.idxOf_cons_self]
      exact Nat.zero_le _
    · rw [if_neg (by rw [decide_eq_true_iff]; exact c)]
      have hne : x ≠ p := fun z => c (z ▸ hp)
      have hr' : p ∈ row := (List.mem_cons.mp hr).resolve_left fun z => hne z.symm
      have hf : (row.filter fun p => decide (p ∈ room)).headD 0 ∈ room := by
        cases e : (row.filter fun p => decide (p ∈ room)) with
        | nil => exact absurd e (filt_ne ⟨p, hr', hp⟩)
        | cons y l => exact of_decide_eq_true (p := y ∈ room) (List.mem_filter.mp (show y ∈ row.filter fun p => decide (p ∈ room) by rw [e]; exact List.mem_cons_self)).2
      have hne2 : x ≠ (row.filter fun p => decide (p ∈ room)).headD 0 := fun z => c (z ▸ hf)
      rw [idx_ne hne, idx_ne hne2]
      exact Nat.succ_le_succ (ih hr')
theorem ok_lleast (T : Bi W) (D : HasDef W "_law_least_row" 47) : Fn W "_law_least_row" 1 2 Rlleast := by
  refine fn_mk D sc_lleast rfl (fun _ _ _ _ _ _ us hl => match us, hl with | [_, _], _ => rfl) fun f cdv A outer s0 H E hF ds r hR _ => ?_
  obtain ⟨rows, room, rfl, hd, hl, hne, hr, rfl⟩ := hR
  refine ⟨_, ss_one (s_ret (XE.is (o_lcm [3] [("row", 3)] (defScope (top 47)) rows lI (fun r => .int (fstP r room)) hF (i_sq hF (xv 0 hF)) (by omega) fun hB r hr2 => ?_) ?_)), .rt _⟩
  · obtain ⟨h1, h2⟩ := hr r hr2
    obtain ⟨p0, hp0⟩ := List.exists_mem_of_ne_nil _ hne
    have hex : ∃ p ∈ r, p ∈ room := ⟨p0, h2 p0 hp0, hp0⟩
    obtain ⟨f1, f2⟩ := fstP_mem hex
    have hix : atI (r.map Dat.int) ((r.idxOf (fstP r room) : Nat) : Int) = some (.int (fstP r room)) := by
      have hlt := List.idxOf_lt_length_iff.mpr f1
      exact atI_map (by rw [List.getElem?_eq_getElem hlt, List.getElem_idxOf])
    refine ⟨_, g_name 3 hB, x_ix hB (q_of (xv 3 hB)) (x_min (ns := room.map fun p => ((r.idxOf p : Nat) : Int)) T.min hB (XQ.is (q_mL (o_lcm [2] [("p", 2)] (relS (retScope (defBody (top 47))) (defScope (top 47))) room .int (fun p => .int (r.idxOf p : Nat)) hB (i_sq hB (xv 1 hB)) (by omega)
      fun hC p hp => ⟨_, g_name 2 hC, x_indexL hC (q_of (xv 3 hC)) (xv 2 hC) (h2 p hp)⟩)) (by rw [List.map_map]; rfl)) ?_ ?_) hix⟩
    · exact List.mem_map.mpr ⟨_, f2, rfl⟩
    · intro y hy
      obtain ⟨p, hp, rfl⟩ := List.mem_map.mp hy
      have := fst_least hex p hp (h2 p hp)
      omega
  · unfold leastR
    rw [List.map_map]
    rfl
/-! ### the law's terms -/
theorem sc_terms : FnScope ["rows", "rooms", "own", "terms", "room"] ["rows", "rooms", "own"] (defScope (top 49)) := ⟨rfl, rfl, rfl, by decide +kernel, rfl, by decide +kernel, by decide +kernel⟩
def termsF (rows rooms : List (List Int)) (own : List Int) : List (List Int × Int) := sortT ((own, -1) :: rooms.map fun r => (r, M84.sg (leastR rows r)))
def Rterms : List Dat → Sl → Prop := fun ds s => ∃ (rows rooms : List (List Int)) (own : List Int), ds = [.sq false (rows.map lI), .sq false (rooms.map tI), tI own] ∧ rows.length ≤ 100 ∧ rooms.length ≤ 50000 ∧ (∀ room ∈ rooms, room.length ≤ 100 ∧ room ≠ [] ∧ (∀ r ∈ rows, r.length ≤ 1000 ∧ ∀ p ∈ room, p ∈ r)) ∧ s = .mL ((termsF rows rooms own).map tmD)
theorem ok_terms (T : Bi W) (C : Fn W "_law_least_row" 1 2 Rlleast) (C2 : Fn W "_law_sign" 1 1 Rsign) (D : HasDef W "_law_terms" 49) : Fn W "_law_terms" 2 3 Rterms := by
  refine fn_mk D sc_terms rfl (fun _ _ _ _ _ _ us hl => match us, hl with | [_, _, _], _ => rfl) fun f cdv A outer s0 H E hF ds r hR _ => ?_
  obtain ⟨rows, rooms, own, rfl, hd, hl, hr, rfl⟩ := hR
  refine ⟨_, ss_cons (s_set 3 hF (o_lst (xa_cons (x_tup (xa_cons (xv 2 hF) (xa_cons (x_neg x_int) xa_nil))) xa_nil))) (ss_cons (s_forM (l := rooms) (enc := tI) [4] (fun t => [.dat (.sq false (rows.map lI)), .dat (.sq false (rooms.map tI)), .dat (tI own), .mL (((own, -1) :: (rooms.take t).map fun r => (r, M84.sg (leastR rows r))).map tmD), .no]) hF (i_sq hF (xv 1 hF)) (.same (.same (.same (.same (.same .nil))))) ?_)
    (ss_one (s_ret (XE.is (o_sorted T.sorted hF (q_var 3 hF) (ok_tms ?_)) ?_)))), .rt _⟩
  · intro t room ht
    obtain ⟨a1, a2, a3⟩ := hr room (List.mem_of_getElem? ht)
    refine ⟨_, _, g_name 4 hF, ss_one (s_append (d := tmD (room, M84.sg (leastR rows room))) 3 hF rfl (x_tup (xa_cons (xv 4 hF) (xa_cons (x_call C2 hF (by decide) (xa_cons (XE.pub (x_call C hF (by decide) (xa_cons (xv 0 hF) (xa_cons (xv 4 hF) xa_nil)) rfl ⟨rows, room, rfl, hd, a1, a2, a3, rfl⟩)) xa_nil) rfl ⟨false, leastR rows room, rfl, by unfold leastR; rw [List.length_map]; omega, rfl⟩) xa_nil))) ?_), _, .inl rfl, ?_⟩
    · rw [List.length_map, List.length_cons, List.length_map, List.length_take]
      omega
    · have e : ((own, (-1 : Int)) :: (rooms.take t).map fun r => (r, M84.sg (leastR rows r))).map tmD ++ [tmD (room, M84.sg (leastR rows room))] = ((own, (-1 : Int)) :: (rooms.take (t + 1)).map fun r => (r, M84.sg (leastR rows r))).map tmD := by
        rw [List.take_add_one, ht, Option.toList_some, List.map_append, ← List.cons_append, List.map_append]
        rfl
      show Wk [_, _, _, .mL (((own, (-1 : Int)) :: (rooms.take t).map fun r => (r, M84.sg (leastR rows r))).map tmD ++ [tmD (room, M84.sg (leastR rows room))]), _] _
      rw [e]
      exact .same (.same (.same (.same (.drop .nil))))
  · rw [List.length_cons, List.length_map, List.length_take]
    omega
  · rw [sort_tms, List.take_length]
    rfl
end K84
/-! part D9 -/
set_option Elab.async false
set_option linter.all false
set_option maxRecDepth 100000
set_option maxHeartbeats 4000000
namespace K84
open PySem PySem.Spec PyProof.Rows L2 Evl FX
variable {W : Wd}
/-! ### what lies above -/
theorem mem_drop_idx {x : Int} : ∀ {row : List Int} {i : Nat}, row.Nodup → x ∈ row → (x ∈ row.drop (i + 1) ↔ i < row.idxOf x)
  | [], i, _, h => by simp at h
  | y :: row, i, hn, h => by
    obtain ⟨h1, h2⟩ := List.nodup_cons.mp hn
    by_cases c : y = x
    · subst c
      rw [List.idxOf_cons_self, List.drop_succ_cons]
      constructor
      · intro z; exact absurd (List.mem_of_mem_drop z) h1
      · intro z; omega
    · have hx : x ∈ row := (List.mem_cons.mp h).resolve_left fun z => c z.symm
      rw [idx_ne c, List.drop_succ_cons]
      cases i with
      | zero => rw [List.drop_zero]; exact ⟨fun _ => by omega, fun _ => hx⟩
      | succ i =>
        rw [mem_drop_idx h2 hx]
        omega
theorem mem_fold {x : Int} {room : List Int} : ∀ {rows : List (List Int)} {l : List Int}, x ∈ rows.foldl (fun found row => found.filter fun p => decide (p ∈ abvP row room)) l ↔ x ∈ l ∧ ∀ r ∈ rows, x ∈ abvP r room
  | [], l => by simp
  | r :: rows, l => by
    rw [List.foldl_cons, mem_fold, List.mem_filter, decide_eq_true_iff]
    simp [and_assoc]
theorem mem_all {rows : List (List Int)} {room : List Int} {x : Int} (hne : rows ≠ []) : x ∈ abvAll rows room ↔ ∀ r ∈ rows, x ∈ abvP r room := by
  cases rows with
  | nil => exact absurd rfl hne
  | cons r rows =>
    unfold abvAll
    rw [List.tail_cons, List.headD_cons, mem_fold, (sortI_perm _).mem_iff]
    simp
/-- p is above the room's least in every row -/
def beats (rows : List (List Int)) (room : List Int) (p : Int) : Bool := rows.all fun r => decide (r.idxOf (fstP r room) < r.idxOf p)
theorem beats_iff {rows : List (List Int)} {room : List Int} {n : Nat} {p : Int} (hne : rows ≠ []) (hr : ∀ r ∈ rows, r.Perm (irg 0 n)) (hp : p ∈ irg 0 n) : beats rows room p = true ↔ p ∈ abvAll rows room := by
  rw [mem_all hne]
  unfold beats
  rw [List.all_eq_true]
  constructor
  · intro h r hrr
    exact (mem_drop_idx ((hr r hrr).nodup_iff.mpr (irg_nodup 0 n)) ((hr r hrr).mem_iff.mpr hp)).mpr (of_decide_eq_true (h r hrr))
  · intro h r hrr
    exact decide_eq_true ((mem_drop_idx ((hr r hrr).nodup_iff.mpr (irg_nodup 0 n)) ((hr r hrr).mem_iff.mpr hp)).mp (h r hrr))
theorem none_beats {rows : List (List Int)} {room : List Int} {n : Nat} (hne : rows ≠ []) (hr : ∀ r ∈ rows, r.Perm (irg 0 n)) : ((irg 0 n).filter (beats rows room)).length = 0 ↔ (abvAll rows room).length = 0 := by
  rw [List.length_eq_zero_iff, List.length_eq_zero_iff, List.filter_eq_nil_iff]
  constructor
  · intro h
    refine List.eq_nil_iff_forall_not_mem.mpr fun x hx => ?_
    have hx' : x ∈ irg 0 n := by
      cases rows with
      | nil => exact absurd rfl hne
      | cons r rows =>
        have := (mem_all hne).mp hx r List.mem_cons_self
        exact (hr r List.mem_cons_self).mem_iff.mp (List.mem_of_mem_drop this)
    exact h x hx' ((beats_iff hne hr hx').mpr hx)
  · intro h x hx hb
    have := (beats_iff hne hr hx).mp hb
    rw [h] at this
    cases this
/-- the m-th statement in the body of the i-th, a for; .. one deeper -/
def forStmts : Stmt → List Stmt
  | .For _ _ b _ _ => b
  | _ => []
def forBody (b : List Stmt) (i m : Nat) : Stmt := (forStmts (b.getD i (.Pass ⟨0, 0, 0, 0⟩))).getD m (.Pass ⟨0, 0, 0, 0⟩)
def forBody2 (b : List Stmt) (i m l : Nat) : Stmt := (forStmts (forBody b i m)).getD l (.Pass ⟨0, 0, 0, 0⟩)
theorem sc_lub : FnScope ["rows", "n", "found", "room", "least", "beaters", "p", "behind", "k"] ["rows"] (defScope (top 48)) := ⟨rfl, rfl, rfl, by decide +kernel, rfl, by decide +kernel, by decide +kernel⟩
def Rlub : List Dat → Sl → Prop := fun ds s => ∃ (os : List (List Int)) (d v : Nat), ds = [.sq false ((fulls os d v).map lI)] ∧ Ords os d v ∧ s = .mL ((ubR os d v).map tI)
theorem ok_lub (T : Bi W) (C : Fn W "_law_rooms" 5 2 (Rsubs 4)) (C2 : Fn W "_law_least_row" 1 2 Rlleast) (D : HasDef W "_law_unbeaten" 48) : Fn W "_law_unbeaten" 6 1 Rlub := by
  refine fn_mk D sc_lub rfl (fun _ _ _ _ _ _ us hl => match us, hl with | [_], _ => rfl) fun f cdv A outer s0 H E hF ds r hR _ => ?_
  obtain ⟨os, d, v, rfl, ho, rfl⟩ := hR
  have h1 := ho.d1
  have h2 := ho.d4
  have h4 := ho.v8
  have hlen : (fulls os d v).length = d := by rw [fulls_len, ho.len]
  have hne : (fulls os d v) ≠ [] := List.ne_nil_of_length_pos (by omega)
  have hperm : ∀ r ∈ fulls os d v, r.Perm (irg 0 (v + d)) := fun r hr => full_perm ho hr
  have hrl : ∀ r ∈ fulls os d v, r.length = v + d := fun r hr => by rw [(hperm r hr).length_eq, irg_len]
  have g0 : (fulls os d v)[0]? = some ((fulls os d v)[0]'(by omega)) := List.getElem?_eq_getElem (by omega)
  have a0 : atI ((fulls os d v).map lI) 0 = some (lI ((fulls os d v)[0]'(by omega))) := atI_map (j := 0) g0
  have hr0 := hrl _ (List.mem_of_getElem? g0)
  have hsub := subs_len (l := irg 0 (v + d)) (s := d) (by rw [irg_len]; omega) (by rw [irg_len]; omega)
  refine ⟨_, ss_cons (s_set 1 hF (XD.is (da := nD (v + d)) (x_lenM T.len hF (q_of (x_ix hF (q_of (xv 0 hF)) x_int a0))) (congrArg nD hr0))) (ss_cons (s_set 2 hF (o_lst xa_nil))
    (ss_cons (s_forM (l := subs (irg 0 (v + d)) d) (enc := tI) [3] (fun j => [.dat (.sq false ((fulls os d v).map lI)), .dat (nD (v + d)), .mL ((((subs (irg 0 (v + d)) d).take j).filter fun room => decide ((abvAll (fulls os d v) room).length = 0)).map tI), .no, .no, .no, .no, .no, .no]) hF
      (i_sq (t := false) hF (XE.pub (x_call C hF (by decide) (xa_cons (x_tupRg (n := v + d) T.tuple T.range hF (xv 1 hF) (by omega)) (xa_cons (XD.is (da := nD d) (x_lenM T.len hF (q_of (xv 0 hF))) (congrArg nD hlen)) xa_nil)) rfl ⟨irg 0 (v + d), d, rfl, h2, by rw [irg_len]; omega, by rw [irg_len]; omega, rfl⟩)))
      (.same (.same (.same (.same (.same (.same (.same (.same (.same .nil))))))))) ?_) (ss_one (s_retV 2 hF rfl (by intro z; cases z))))), ?_⟩
  · intro j room hj
    have hroom := List.mem_of_getElem? hj
    have hl := subs_mem hroom
    have hin : ∀ p ∈ room, p ∈ irg 0 (v + d) := fun p hp => (subs_sub hroom).subset hp
    have hex : ∀ r ∈ fulls os d v, ∃ p ∈ r, p ∈ room := fun r hr => room_in ho hroom hr
    have tk : ∀ (P : List Int → Bool), ((subs (irg 0 (v + d)) d).take (j + 1)).filter P = ((subs (irg 0 (v + d)) d).take j).filter P ++ (if P room = true then [room] else []) := fun P => by
      rw [List.take_add_one, hj, Option.toList_some, List.filter_append, List.filter_cons, List.filter_nil]
    let bt : Nat → Bool := fun j => beats (fulls os d v) room ((j : Nat) : Int)
    have hbt : bt = fun j => beats (fulls os d v) room ((j : Nat) : Int) := rfl
    have hcnt : ((List.range (v + d)).filter bt).length = ((irg 0 (v + d)).filter (beats (fulls os d v) room)).length := by
      unfold irg
      rw [List.filter_map, List.length_map]
      congr 1
      refine List.filter_congr fun x _ => ?_
      show beats _ _ ((x : Nat) : Int) = beats _ _ (0 + ((x : Nat) : Int))
      rw [Int.zero_add]
    have loop : XS (bodyF W ["rows", "n", "found", "room", "least", "beaters", "p", "behind", "k"] "_law_unbeaten" (defScope (top 48)) f cdv A outer s0 H E) (forBody (defBody (top 48)) 2 2)
        [.dat (.sq false ((fulls os d v).map lI)), .dat (nD (v + d)), .mL ((((subs (irg 0 (v + d)) d).take j).filter fun room => decide ((abvAll (fulls os d v) room).length = 0)).map tI), .dat (tI room), .dat (lI (leastR (fulls os d v) room)), .dat (.int 0), .no, .no, .no]
        (.nx [.dat (.sq false ((fulls os d v).map lI)), .dat (nD (v + d)), .mL ((((subs (irg 0 (v + d)) d).take j).filter fun room => decide ((abvAll (fulls os d v) room).length = 0)).map tI), .dat (tI room), .dat (lI (leastR (fulls os d v) room)), .dat (nD ((List.range (v + d)).filter bt).length), .no, .no, .no]) := by
      refine s_forN (n := v + d) [6] (fun t => [.dat (.sq false ((fulls os d v).map lI)), .dat (nD (v + d)), .mL ((((subs (irg 0 (v + d)) d).take j).filter fun room => decide ((abvAll (fulls os d v) room).length = 0)).map tI), .dat (tI room), .dat (lI (leastR (fulls os d v) room)), .dat (nD ((List.range t).filter bt).length), .no, .no, .no]) hF
        (i_rngN T.range hF (xv 1 hF) (by omega)) (.same (.same (.same (.same (.same (.same (.same (.same (.same .nil))))))))) fun t ht => ?_
      let pk : Nat → Bool := fun k => decide (((fulls os d v).getD k []).idxOf (fstP ((fulls os d v).getD k []) room) < ((fulls os d v).getD k []).idxOf ((t : Nat) : Int))
      have htm : ((t : Nat) : Int) ∈ irg 0 (v + d) := mem_irg.mpr (by omega)
      have hall : ((List.range d).filter pk).length = d ↔ bt t = true := by
        have e1 : ((List.range d).filter pk).length = (List.range d).length ↔ ∀ k ∈ List.range d, pk k = true := List.length_filter_eq_length_iff
        rw [List.length_range] at e1
        rw [e1]
        show _ ↔ beats _ _ _ = true
        unfold beats
        rw [List.all_eq_true]
        constructor
        · intro h r hr
          obtain ⟨k, hk, rfl⟩ := List.mem_iff_getElem.mp hr
          have := h k (List.mem_range.mpr (by omega))
          have e : (fulls os d v).getD k [] = (fulls os d v)[k] := by rw [List.getD_eq_getElem?_getD, List.getElem?_eq_getElem hk]; rfl
          simpa only [pk, e] using this
        · intro h k hk
          have hk2 : k < (fulls os d v).length := by have := List.mem_range.mp hk; omega
          have := h _ (List.getElem_mem hk2)
          have e : (fulls os d v).getD k [] = (fulls os d v)[k] := by rw [List.getD_eq_getElem?_getD, List.getElem?_eq_getElem hk2]; rfl
          simpa only [pk, e] using this
      have ec : ((List.range (t + 1)).filter bt).length = ((List.range t).filter bt).length + if bt t = true then 1 else 0 := by
        rw [List.range_succ, List.filter_append, List.length_append, List.filter_cons, List.filter_nil]
        split <;> rfl
      have beh : XS (bodyF W ["rows", "n", "found", "room", "least", "beaters", "p", "behind", "k"] "_law_unbeaten" (defScope (top 48)) f cdv A outer s0 H E) (forBody2 (defBody (top 48)) 2 2 0)
          [.dat (.sq false ((fulls os d v).map lI)), .dat (nD (v + d)), .mL ((((subs (irg 0 (v + d)) d).take j).filter fun room => decide ((abvAll (fulls os d v) room).length = 0)).map tI), .dat (tI room), .dat (lI (leastR (fulls os d v) room)), .dat (nD ((List.range t).filter bt).length), .dat (nD t), .no, .no]
          (.nx [.dat (.sq false ((fulls os d v).map lI)), .dat (nD (v + d)), .mL ((((subs (irg 0 (v + d)) d).take j).filter fun room => decide ((abvAll (fulls os d v) room).length = 0)).map tI), .dat (tI room), .dat (lI (leastR (fulls os d v) room)), .dat (nD ((List.range t).filter bt).length), .dat (nD t), .mL (((List.range d).filter pk).map nD), .no]) := by
        refine s_setLcf 7 [8] [("k", 8)] (defScope (top 48)) (List.range d) nD pk nD hF (i_rngN T.range hF (XD.is (da := nD d) (x_lenM T.len hF (q_of (xv 0 hF))) (congrArg nD hlen)) (by omega)) (by rw [List.length_range]; omega) fun hB k hk => ?_
        have hk2 : k < (fulls os d v).length := by have := List.mem_range.mp hk; omega
        have e : (fulls os d v).getD k [] = (fulls os d v)[k] := by rw [List.getD_eq_getElem?_getD, List.getElem?_eq_getElem hk2]; rfl
        have gk : (fulls os d v)[k]? = some ((fulls os d v).getD k []) := by rw [e]; exact List.getElem?_eq_getElem hk2
        have mk : (fulls os d v).getD k [] ∈ fulls os d v := List.mem_of_getElem? gk
        have ak : atI ((fulls os d v).map lI) ((k : Nat) : Int) = some (lI ((fulls os d v).getD k [])) := atI_map gk
        have bk : atI ((leastR (fulls os d v) room).map Dat.int) ((k : Nat) : Int) = some (.int (fstP ((fulls os d v).getD k []) room)) := by
          unfold leastR
          rw [List.map_map]
          exact atI_map gk
        refine ⟨_, g_name 8 hB, t_one (XB.is (b_cm (cm_gt (x_indexL hB (q_of (x_ix hB (q_of (xv 0 hB)) (xv 8 hB) ak)) (xv 6 hB) ((hperm _ mk).mem_iff.mpr htm)) (x_indexL hB (q_of (x_ix hB (q_of (xv 0 hB)) (xv 8 hB) ak)) (x_ix hB (q_of (xv 4 hB)) (xv 8 hB) bk) (fstP_mem (hex _ mk)).1))) ?_), fun _ => xv 8 hB⟩
        show decide _ = decide _
        congr 1
        exact propext (by omega)
      by_cases c : bt t = true
      · refine ⟨_, _, g_name 6 hF, ss_cons beh (ss_one (s_ifT (XB.is (b_cm (cm_eq (x_lenM T.len hF (q_var 7 hF)) (x_lenM T.len hF (q_of (xv 0 hF))))) (decide_eq_true (by rw [hlen, hall.mpr c]))) (ss_one (s_set 5 hF (x_add (xv 5 hF) x_int))))), _, .inl rfl, ?_⟩
        rw [ec, if_pos c]
        exact .same (.same (.same (.same (.same (.same (.drop (.drop (.drop .nil))))))))
      · refine ⟨_, _, g_name 6 hF, ss_cons beh (ss_one (s_ifN (XB.is (b_cm (cm_eq (x_lenM T.len hF (q_var 7 hF)) (x_lenM T.len hF (q_of (xv 0 hF))))) (decide_eq_false (by rw [hlen]; intro z; exact c (hall.mp (by omega))))))), _, .inl rfl, ?_⟩
        rw [ec, if_neg c, Nat.add_zero]
        exact .same (.same (.same (.same (.same (.same (.drop (.drop (.drop .nil))))))))
    by_cases c : (abvAll (fulls os d v) room).length = 0
    · refine ⟨_, _, g_name 3 hF, ss_cons (s_set 4 hF (XE.pub (x_call C2 hF (by decide) (xa_cons (xv 0 hF) (xa_cons (xv 3 hF) xa_nil)) rfl ⟨fulls os d v, room, rfl, by omega, by omega, by intro z; subst z; simp at hl; omega, fun r hr => ⟨by rw [hrl r hr]; omega, fun p hp => (hperm r hr).mem_iff.mpr (hin p hp)⟩, rfl⟩))) (ss_cons (s_set 5 hF x_int) (ss_cons loop
        (ss_one (s_ifT (XB.is (b_cm (cm_eq (xv 5 hF) x_int)) (decide_eq_true (by rw [hcnt]; have := (none_beats hne hperm (room := room)).mpr c; omega))) (ss_one (s_append 2 hF rfl (xv 3 hF) ?_)))))), _, .inl rfl, ?_⟩
      · rw [List.length_map]
        have := List.length_filter_le (fun room => decide ((abvAll (fulls os d v) room).length = 0)) ((subs (irg 0 (v + d)) d).take j)
        rw [List.length_take] at this
        omega
      · show Wk [_, _, .mL (_ ++ [tI room]), _, _, _, _, _, _] _
        rw [tk, if_pos (decide_eq_true c), List.map_append]
        exact .same (.same (.same (.drop (.drop (.drop (.drop (.drop (.drop .nil))))))))
    · refine ⟨_, _, g_name 3 hF, ss_cons (s_set 4 hF (XE.pub (x_call C2 hF (by decide) (xa_cons (xv 0 hF) (xa_cons (xv 3 hF) xa_nil)) rfl ⟨fulls os d v, room, rfl, by omega, by omega, by intro z; subst z; simp at hl; omega, fun r hr => ⟨by rw [hrl r hr]; omega, fun p hp => (hperm r hr).mem_iff.mpr (hin p hp)⟩, rfl⟩))) (ss_cons (s_set 5 hF x_int) (ss_cons loop
        (ss_one (s_ifN (XB.is (b_cm (cm_eq (xv 5 hF) x_int)) (decide_eq_false (by rw [hcnt]; intro z; exact c ((none_beats hne hperm (room := room)).mp (by omega))))))))), _, .inl rfl, ?_⟩
      rw [tk, if_neg (by rw [decide_eq_true_iff]; exact c), List.append_nil]
      exact .same (.same (.same (.drop (.drop (.drop (.drop (.drop (.drop .nil))))))))
  · rw [List.take_length]
    exact .rt _
end K84
/-! part D10 -/
set_option Elab.async false
set_option linter.all false
set_option maxRecDepth 100000
set_option maxHeartbeats 4000000
namespace K84
open PySem PySem.Spec PyProof.Rows L2 Evl FX
variable {W : Wd}
/-! ### dicts of things of one type -/
section
variable {α : Type}
def valA (kvs : List (List Int × α)) (k : List Int) : Option α := (kvs.find? fun p => decide (p.1 = k)).map (·.2)
def putA (kvs : List (List Int × α)) (k : List Int) (a : α) : List (List Int × α) :=
  if (kvs.any fun p => decide (p.1 = k)) = true then kvs.map (fun p => if p.1 = k then (p.1, a) else p) else kvs ++ [(k, a)]
def encK (enc : α → Dat) (kvs : List (List Int × α)) : List (List Int × Dat) := kvs.map fun p => (p.1, enc p.2)
theorem valD_enc (enc : α → Dat) (kvs : List (List Int × α)) (k : List Int) : valD (encK enc kvs) k = (valA kvs k).map enc := by
  unfold valD valA encK
  induction kvs with
  | nil => rfl
  | cons p kvs ih =>
    rw [List.map_cons, List.find?_cons, List.find?_cons]
    show Option.map _ (match decide (p.1 = k) with | true => _ | false => _) = Option.map enc (Option.map _ (match decide (p.1 = k) with | true => _ | false => _))
    cases decide (p.1 = k) with
    | true => rfl
    | false => exact ih
theorem putD_enc (enc : α → Dat) (kvs : List (List Int × α)) (k : List Int) (a : α) : putD (encK enc kvs) k (enc a) = encK enc (putA kvs k a) := by
  unfold putD putA encK
  rw [List.any_map]
  by_cases c : (kvs.any fun p => decide (p.1 = k)) = true
  · rw [if_pos c, if_pos (show (kvs.any ((fun p => decide (p.1 = k)) ∘ fun p => (p.1, enc p.2))) = true from c), List.map_map, List.map_map]
    refine List.map_congr_left fun p _ => ?_
    show (if p.1 = k then _ else _) = (fun q : List Int × α => (q.1, enc q.2)) (if p.1 = k then _ else _)
    split <;> rfl
  · rw [if_neg c, if_neg (show ¬ (kvs.any ((fun p => decide (p.1 = k)) ∘ fun p => (p.1, enc p.2))) = true from c), List.map_append]
    rfl
theorem putA_len (kvs : List (List Int × α)) (k : List Int) (a : α) : (putA kvs k a).length ≤ kvs.length + 1 := by
  unfold putA
  split
  · rw [List.length_map]; omega
  · rw [List.length_append]; exact Nat.le_refl _
theorem valA_put (kvs : List (List Int × α)) (k j : List Int) (a : α) : valA (putA kvs k a) j = if j = k then some a else valA kvs j := by
  unfold valA putA
  by_cases c : (kvs.any fun p => decide (p.1 = k)) = true
  · rw [if_pos c]
    induction kvs with
    | nil => cases c
    | cons p kvs ih =>
      rw [List.map_cons, List.find?_cons, List.find?_cons]
      by_cases hp : p.1 = k
      · rw [if_pos hp]
        show Option.map _ (match decide (p.1 = j) with | true => _ | false => _) = if j = k then some a else Option.map _ (match decide (p.1 = j) with | true => _ | false => _)
        by_cases hj : j = k
        · rw [if_pos hj, decide_eq_true (hp.trans hj.symm)]
          rfl
        · rw [if_neg hj, decide_eq_false (fun z => hj (z.symm.trans hp))]
          show Option.map _ (List.find? _ _) = Option.map _ (List.find? _ _)
          have key : ∀ l : List (List Int × α), Option.map (fun x => x.2) (List.find? (fun p => decide (p.1 = j)) (l.map fun p => if p.1 = k then (p.1, a) else p)) = Option.map (fun x => x.2) (List.find? (fun p => decide (p.1 = j)) l) := fun l => by
            induction l with
            | nil => rfl
            | cons q l ihl =>
              rw [List.map_cons, List.find?_cons, List.find?_cons]
              by_cases hq : q.1 = k
              · rw [if_pos hq]
                show Option.map _ (match decide (q.1 = j) with | true => _ | false => _) = Option.map _ (match decide (q.1 = j) with | true => _ | false => _)
                rw [decide_eq_false (fun z => hj (z.symm.trans hq))]
                exact ihl
              · rw [if_neg hq]
                cases decide (q.1 = j) with
                | true => rfl
                | false => exact ihl
          exact key kvs
      · rw [if_neg hp]
        have c' : (kvs.any fun p => decide (p.1 = k)) = true := by
          rw [List.any_cons, decide_eq_false hp, Bool.false_or] at c
          exact c
        by_cases hj : p.1 = j
        · rw [decide_eq_true hj, if_neg (fun z => hp (hj.trans z))]
        · rw [decide_eq_false hj]
          exact ih c'
  · rw [if_neg c, List.find?_append]
    have hn : ∀ p ∈ kvs, ¬ p.1 = k := fun p hp z => c (List.any_eq_true.mpr ⟨p, hp, decide_eq_true z⟩)
    by_cases hj : j = k
    · rw [if_pos hj, hj, List.find?_eq_none.mpr (fun p hp => by rw [decide_eq_true_iff]; exact hn p hp), Option.none_or, List.find?_cons, decide_eq_true rfl]
      rfl
    · rw [if_neg hj, List.find?_cons, decide_eq_false (fun z : (k, a).1 = j => hj z.symm), List.find?_nil, Option.or_none]
/-- the keys, each once -/
theorem putA_keys (kvs : List (List Int × α)) (k : List Int) (a : α) : (putA kvs k a).map (·.1) = if k ∈ kvs.map (·.1) then kvs.map (·.1) else kvs.map (·.1) ++ [k] := by
  unfold putA
  by_cases c : (kvs.any fun p => decide (p.1 = k)) = true
  · have hm : k ∈ kvs.map (·.1) := by
      obtain ⟨p, hp, h⟩ := List.any_eq_true.mp c
      exact List.mem_map.mpr ⟨p, hp, of_decide_eq_true h⟩
    rw [if_pos c, if_pos hm, List.map_map]
    refine List.map_congr_left fun p _ => ?_
    show (if p.1 = k then (p.1, a) else p).1 = p.1
    split <;> rfl
  · have hm : ¬ k ∈ kvs.map (·.1) := fun h => by
      obtain ⟨p, hp, h⟩ := List.mem_map.mp h
      exact c (List.any_eq_true.mpr ⟨p, hp, decide_eq_true h⟩)
    rw [if_neg c, if_neg hm, List.map_append]
    rfl
theorem valA_mem {kvs : List (List Int × α)} {k : List Int} : (valA kvs k).isSome = true ↔ k ∈ kvs.map (·.1) := by
  unfold valA
  rw [Option.isSome_map, List.find?_isSome]
  simp
end
/-! ### counting faces -/
def cStep (t : List (List Int × Int)) (f : List Int) : List (List Int × Int) := putA t f ((valA t f).getD 0 + 1)
def cntL (L : List (List Int)) : List (List Int × Int) := L.foldl cStep []
theorem cntL_snoc (L : List (List Int)) (f : List Int) : cntL (L ++ [f]) = cStep (cntL L) f := by
  unfold cntL
  rw [List.foldl_append]
  rfl
theorem snoc_ind {α : Type} {P : List α → Prop} (h0 : P []) (h1 : ∀ l x, P l → P (l ++ [x])) (l : List α) : P l := by
  have : ∀ m : List α, P m.reverse := fun m => by
    induction m with
    | nil => exact h0
    | cons x m ih => rw [List.reverse_cons]; exact h1 _ _ ih
  have := this l.reverse
  rwa [List.reverse_reverse] at this
theorem cntL_ok (L : List (List Int)) : (cntL L).length ≤ L.length ∧ (∀ f, valA (cntL L) f = if f ∈ L then some ((L.count f : Nat) : Int) else none) ∧ ((cntL L).map (·.1)).Nodup ∧ ∀ f, f ∈ (cntL L).map (·.1) ↔ f ∈ L := by
  induction L using snoc_ind with
  | h0 => exact ⟨Nat.le_refl _, fun f => rfl, List.nodup_nil, fun f => Iff.rfl⟩
  | h1 L x ih =>
    obtain ⟨h1, h2, h3, h4⟩ := ih
    rw [cntL_snoc]
    unfold cStep
    refine ⟨?_, fun f => ?_, ?_, fun f => ?_⟩
    · have := putA_len (cntL L) x ((valA (cntL L) x).getD 0 + 1)
      rw [List.length_append]
      show _ ≤ _ + 1
      omega
    · rw [valA_put, h2 x]
      by_cases c : f = x
      · subst c
        rw [if_pos rfl, if_pos (List.mem_append_right _ (List.mem_singleton.mpr rfl)), List.count_append, List.count_singleton_self]
        by_cases m : f ∈ L
        · rw [if_pos m]
          simp
        · rw [if_neg m, List.count_eq_zero.mpr m]
          rfl
      · have e : (L ++ [x]).count f = L.count f := by
          have hx : (x == f) = false := beq_eq_false_iff_ne.mpr fun z => c z.symm
          rw [List.count_append, List.count_singleton, hx]
          rfl
        rw [if_neg c, h2 f, e]
        by_cases m : f ∈ L
        · rw [if_pos m, if_pos (List.mem_append_left _ m)]
        · rw [if_neg m, if_neg (by simp [m, c])]
    · rw [putA_keys]
      by_cases m : x ∈ (cntL L).map (·.1)
      · rw [if_pos m]; exact h3
      · rw [if_neg m]
        exact List.nodup_append.mpr ⟨h3, by simp, fun a ha b hb z => m (by rw [List.mem_singleton.mp hb] at z; exact z ▸ ha)⟩
    · rw [putA_keys]
      by_cases m : x ∈ (cntL L).map (·.1)
      · rw [if_pos m, h4, List.mem_append, List.mem_singleton]
        exact ⟨.inl, fun h => h.elim id fun z => z ▸ (h4 x).mp m⟩
      · rw [if_neg m, List.mem_append, List.mem_append, h4]
theorem sc_counts : FnScope ["rooms", "counts", "room", "face"] ["rooms"] (defScope (top 19)) := ⟨rfl, rfl, rfl, by decide +kernel, rfl, by decide +kernel, by decide +kernel⟩
def Rcounts : List Dat → Sl → Prop := fun ds s => ∃ (t : Bool) (rooms : List (List Int)), ds = [.sq t (rooms.map tI)] ∧ rooms.length ≤ 5000 ∧ (∀ r ∈ rooms, r.length ≤ 12) ∧ s = .mD (encK .int (cntL (rooms.flatMap fcs)))
theorem flat_len {rooms : List (List Int)} (h : ∀ r ∈ rooms, r.length ≤ 12) : (rooms.flatMap fcs).length ≤ 12 * rooms.length := by
  induction rooms with
  | nil => exact Nat.le_refl _
  | cons r rooms ih =>
    rw [List.flatMap_cons, List.length_append, List.length_cons]
    have := ih fun r hr => h r (List.mem_cons_of_mem _ hr)
    have h2 : (fcs r).length = r.length := by unfold fcs; rw [List.length_map, List.length_range]
    have := h r List.mem_cons_self
    omega
theorem take_flat {α β : Type} {l : List α} {f : α → List β} {j : Nat} {x : α} (h : l[j]? = some x) : (l.take (j + 1)).flatMap f = (l.take j).flatMap f ++ f x := by
  rw [List.take_add_one, h, Option.toList_some, List.flatMap_append, List.flatMap_singleton]
theorem encK_len {α : Type} (enc : α → Dat) (kvs : List (List Int × α)) : (encK enc kvs).length = kvs.length := List.length_map _
theorem ok_counts (T : Bi W) (C : Fn W "faces" 1 1 Rfaces) (D : HasDef W "face_counts" 19) : Fn W "face_counts" 2 1 Rcounts := by
  refine fn_mk D sc_counts rfl (fun _ _ _ _ _ _ us hl => match us, hl with | [_], _ => rfl) fun f cdv A outer s0 H E hF ds r hR _ => ?_
  obtain ⟨t, rooms, rfl, hl, hr, rfl⟩ := hR
  refine ⟨_, ss_cons (s_set 1 hF o_dnew) (ss_cons (s_forM (l := rooms) (enc := tI) [2] (fun j => [.dat (.sq t (rooms.map tI)), .mD (encK .int (cntL ((rooms.take j).flatMap fcs))), .no, .no]) hF (i_sq hF (xv 0 hF)) (.same (.same (.same (.same .nil)))) ?_) (ss_one (s_retV 1 hF rfl (by intro z; cases z)))), ?_⟩
  · intro j room hj
    have hrm := hr room (List.mem_of_getElem? hj)
    refine ⟨_, _, g_name 2 hF, ss_one (s_forM (l := fcs room) (enc := tI) [3] (fun u => [.dat (.sq t (rooms.map tI)), .mD (encK .int (cntL ((rooms.take j).flatMap fcs ++ (fcs room).take u))), .dat (tI room), .no]) hF (i_sq (t := false) hF (XE.pub (x_call C hF (by decide) (xa_cons (xv 2 hF) xa_nil) rfl ⟨room, rfl, by omega, rfl⟩))) ?_ ?_), _, .inl rfl, ?_⟩
    · rw [List.take_zero, List.append_nil]
      exact .same (.same (.same (.drop .nil)))
    · intro u face hu
      have hlen : (cntL ((rooms.take j).flatMap fcs ++ (fcs room).take u)).length ≤ 60000 := by
        refine Nat.le_trans (cntL_ok _).1 ?_
        have h1 := flat_len (rooms := rooms.take j) fun r h => hr r (List.mem_of_mem_take h)
        rw [List.length_take] at h1
        have h2 : (fcs room).length = room.length := by unfold fcs; rw [List.length_map, List.length_range]
        rw [List.length_append, List.length_take]
        have hjl : j < rooms.length := (List.getElem?_eq_some_iff.mp hj).1
        omega
      refine ⟨_, _, g_name 3 hF, ss_one (s_dput (key := face) (d := .int ((valA (cntL ((rooms.take j).flatMap fcs ++ (fcs room).take u)) face).getD 0 + 1)) 1 hF rfl (xv 3 hF) (x_add (XD.is (x_dget2 (key := face) hF (k_var 1 hF) (xv 3 hF) x_int) ?_) x_int) (by rw [encK_len]; omega)), _, .inl rfl, ?_⟩
      · rw [valD_enc]
        cases valA (cntL ((rooms.take j).flatMap fcs ++ (fcs room).take u)) face <;> rfl
      · show Wk [_, .mD (putD _ _ _), _, _] _
        rw [putD_enc, List.take_add_one, hu, Option.toList_some, ← List.append_assoc, cntL_snoc]
        exact .same (.same (.same (.drop .nil)))
    · rw [List.take_length, ← take_flat hj]
      exact .same (.same (.drop (.drop .nil)))
  · rw [List.take_length]
    exact .rt _
/-! ### the law's table of faces -/
def tStep (t : List (List Int × List (List Int))) (p : List Int × List Int) : List (List Int × List (List Int)) := putA t p.1 ((valA t p.1).getD [] ++ [p.2])
def tabL (L : List (List Int × List Int)) : List (List Int × List (List Int)) := L.foldl tStep []
theorem tabL_snoc (L : List (List Int × List Int)) (p : List Int × List Int) : tabL (L ++ [p]) = tStep (tabL L) p := by
  unfold tabL
  rw [List.foldl_append]
  rfl
def pairsOf (room : List Int) : List (List Int × List Int) := (List.range room.length).map fun k => (room.eraseIdx k, room)
theorem tabL_ok (L : List (List Int × List Int)) : (tabL L).length ≤ L.length ∧ ∀ f, (valA (tabL L) f).getD [] = (L.filter fun p => decide (p.1 = f)).map (·.2) ∧ ((∃ p ∈ L, p.1 = f) → (valA (tabL L) f).isSome = true) := by
  induction L using snoc_ind with
  | h0 => exact ⟨Nat.le_refl _, fun f => ⟨rfl, fun ⟨p, h, _⟩ => by cases h⟩⟩
  | h1 L x ih =>
    obtain ⟨h1, h2⟩ := ih
    rw [tabL_snoc]
    unfold tStep
    refine ⟨?_, fun f => ?_⟩
    · have := putA_len (tabL L) x.1 ((valA (tabL L) x.1).getD [] ++ [x.2])
      rw [List.length_append]
      show _ ≤ _ + 1
      omega
    · rw [valA_put]
      by_cases c : f = x.1
      · subst c
        rw [if_pos rfl]
        refine ⟨?_, fun _ => rfl⟩
        rw [List.filter_append, List.map_append, ← (h2 x.1).1, List.filter_cons, decide_eq_true rfl]
        rfl
      · rw [if_neg c]
        refine ⟨?_, fun ⟨p, hp, hf⟩ => (h2 f).2 ?_⟩
        · rw [(h2 f).1, List.filter_append, List.filter_cons, decide_eq_false (fun z => c z.symm), List.filter_nil]
          simp
        · rcases List.mem_append.mp hp with hp | hp
          · exact ⟨p, hp, hf⟩
          · rw [List.mem_singleton.mp hp] at hf
            exact absurd hf.symm c
abbrev rmsD (rs : List (List Int)) : Dat := .sq false (rs.map tI)
theorem sc_table : FnScope ["rooms", "table", "room", "k", "face"] ["rooms"] (defScope (top 43)) := ⟨rfl, rfl, rfl, by decide +kernel, rfl, by decide +kernel, by decide +kernel⟩
def Rtable : List Dat → Sl → Prop := fun ds s => ∃ (rooms : List (List Int)), ds = [.sq false (rooms.map tI)] ∧ rooms.length ≤ 5000 ∧ (∀ r ∈ rooms, r.length ≤ 12) ∧ s = .mD (encK rmsD (tabL (rooms.flatMap pairsOf)))
theorem pflat_len {rooms : List (List Int)} (h : ∀ r ∈ rooms, r.length ≤ 12) : (rooms.flatMap pairsOf).length ≤ 12 * rooms.length := by
  induction rooms with
  | nil => exact Nat.le_refl _
  | cons r rooms ih =>
    rw [List.flatMap_cons, List.length_append, List.length_cons]
    have := ih fun r hr => h r (List.mem_cons_of_mem _ hr)
    have h2 : (pairsOf r).length = r.length := by unfold pairsOf; rw [List.length_map, List.length_range]
    have := h r List.mem_cons_self
    omega
theorem ok_table (T : Bi W) (D : HasDef W "_law_table" 43) : Fn W "_law_table" 1 1 Rtable := by
  refine fn_mk D sc_table rfl (fun _ _ _ _ _ _ us hl => match us, hl with | [_], _ => rfl) fun f cdv A outer s0 H E hF ds r hR _ => ?_
  obtain ⟨rooms, rfl, hl, hr, rfl⟩ := hR
  refine ⟨_, ss_cons (s_set 1 hF o_dnew) (ss_cons (s_forM (l := rooms) (enc := tI) [2] (fun j => [.dat (.sq false (rooms.map tI)), .mD (encK rmsD (tabL ((rooms.take j).flatMap pairsOf))), .no, .no, .no]) hF (i_sq hF (xv 0 hF)) (.same (.same (.same (.same (.same .nil))))) ?_) (ss_one (s_retV 1 hF rfl (by intro z; cases z)))), ?_⟩
  · intro j room hj
    have hrm := hr room (List.mem_of_getElem? hj)
    have hpl : (pairsOf room).length = room.length := by unfold pairsOf; rw [List.length_map, List.length_range]
    refine ⟨_, _, g_name 2 hF, ss_one (s_forN (n := room.length) [3] (fun u => [.dat (.sq false (rooms.map tI)), .mD (encK rmsD (tabL ((rooms.take j).flatMap pairsOf ++ (pairsOf room).take u))), .dat (tI room), .no, .no]) hF (i_rngN T.range hF (x_lenM T.len hF (q_of (xv 2 hF))) (by omega)) ?_ ?_), _, .inl rfl, ?_⟩
    · rw [List.take_zero, List.append_nil]
      exact .same (.same (.same (.drop (.drop .nil))))
    · intro u hu
      have hp : (pairsOf room)[u]? = some (room.eraseIdx u, room) := by
        unfold pairsOf
        rw [List.getElem?_map, List.getElem?_range hu]
        rfl
      have hL : ((rooms.take j).flatMap pairsOf ++ (pairsOf room).take u).length ≤ 60000 := by
        have h1 := pflat_len (rooms := rooms.take j) fun r h => hr r (List.mem_of_mem_take h)
        rw [List.length_take] at h1
        rw [List.length_append, List.length_take]
        have hjl : j < rooms.length := (List.getElem?_eq_some_iff.mp hj).1
        omega
      obtain ⟨t1, t2⟩ := tabL_ok ((rooms.take j).flatMap pairsOf ++ (pairsOf room).take u)
      have hv : ((valA (tabL ((rooms.take j).flatMap pairsOf ++ (pairsOf room).take u)) (room.eraseIdx u)).getD []).length ≤ 60000 := by
        rw [(t2 _).1, List.length_map]
        exact Nat.le_trans (List.length_filter_le _ _) hL
      have e2 : ((valD (encK rmsD (tabL ((rooms.take j).flatMap pairsOf ++ (pairsOf room).take u))) (room.eraseIdx u)).getD (.sq false [])) = rmsD ((valA (tabL ((rooms.take j).flatMap pairsOf ++ (pairsOf room).take u)) (room.eraseIdx u)).getD []) := by
        rw [valD_enc]
        cases valA (tabL ((rooms.take j).flatMap pairsOf ++ (pairsOf room).take u)) (room.eraseIdx u) <;> rfl
      refine ⟨_, _, g_name 3 hF, ss_cons (s_set 4 hF (XD.is (da := tI (room.eraseIdx u)) (x_catT hF (x_slT hF (xv 2 hF) o_none (o_some (xv 3 hF))) (x_slT hF (xv 2 hF) (o_some (x_add (xv 3 hF) x_int)) o_none) ?_) ?_))
        (ss_one (s_dput (key := room.eraseIdx u) (d := rmsD ((valA (tabL ((rooms.take j).flatMap pairsOf ++ (pairsOf room).take u)) (room.eraseIdx u)).getD [] ++ [room])) 1 hF rfl (xv 4 hF)
          (XD.is (XE.pub (o_catL hF (q_of (XD.is (x_dget2 (key := room.eraseIdx u) hF (k_var 1 hF) (xv 4 hF) (x_lst xa_nil)) e2)) (q_mL (o_lst (xa_cons (xv 2 hF) xa_nil))) ?_)) ?_) ?_)), _, .inl rfl, ?_⟩
      · have h1 : ∀ (lo hi : Option Int), (FX.cutD (room.map Dat.int) lo hi).length ≤ 1000 := fun lo hi => by
          unfold FX.cutD
          rw [List.length_take, List.length_drop, List.length_map]
          omega
        have := h1 none (some (u : Int))
        have := h1 (some ((u : Int) + 1)) none
        omega
      · rw [cut_to, show ((u : Nat) : Int) + 1 = ((u + 1 : Nat) : Int) by omega, cut_from, take_drop_erase _ _ (by rw [List.length_map]; exact hu), map_erase]
      · rw [List.length_map]
        show _ + 1 ≤ _
        omega
      · show Dat.sq false _ = Dat.sq false (List.map tI (_ ++ [room]))
        rw [List.map_append]
        rfl
      · rw [encK_len]
        omega
      · show Wk [_, .mD (putD _ _ _), _, _, _] _
        rw [putD_enc, List.take_add_one, hp, Option.toList_some, ← List.append_assoc, tabL_snoc]
        exact .same (.same (.same (.drop (.drop .nil))))
    · rw [show (pairsOf room).take room.length = pairsOf room by rw [← hpl, List.take_length], ← take_flat hj]
      exact .same (.same (.drop (.drop (.drop .nil))))
  · rw [List.take_length]
    exact .rt _
end K84
/-! part FH -/
set_option Elab.async false
set_option linter.all false
set_option maxRecDepth 100000
set_option maxHeartbeats 2000000
/-! Own classes over data: instances made, fields, methods, properties, len, abs, ==, isinstance, constants. -/
namespace FX
open PySem PySem.Spec PyProof.Rows L2 Evl
theorem dtf_put {G : Hp} {f : Str} {v : V} {d : Dat} : ∀ {vs : List (Str × V)} {fs : List (Str × Dat)}, DtFs G vs fs → Dt G v d → fs.lookup f = none → DtFs G (putF f v vs) (fs ++ [(f, d)])
  | _, _, .nil, h, _ => .cons h .nil
  | _, _, .cons (f := g) hg t, h, e => by
    rw [List.lookup_cons] at e
    cases q : f == g with
    | true =>
      rw [q] at e
      cases e
    | false =>
      rw [q] at e
      have hn : g ≠ f := fun z => by rw [z, beq_self_eq_true] at q; cases q
      unfold putF
      rw [if_neg hn]
      exact .cons hg (dtf_put t h e)
section
variable {ι : Type} {W : Wd} {k : Nat} {N : List Str} {F : ι → Cx} {Γ Γ1 Γ2 : List Sl} {a b c e : Expr} {es : List Expr} {st : Stmt} {sts : List Stmt} {d da db dc : Dat} {s : Sl} {o : Out} {pos : Pos} {P P1 P2 : Pr} {t : Bool} {ds : List Dat} {C : Addr} {fs : List (Str × Dat)} {f : Str}
/-- o.f -/
theorem x_fld (hF : Fam W k N F) (h : XD F a Γ (.obj C fs)) (hc : Cls W.K C) (hn : NoAttr W.K C f) (hl : fs.lookup f = some d) (hb : ∀ n, attributeBase a f (F n).env (eval a (F n).env) = eval a (F n).env := by intro _; rfl) : XD F (.Attribute a f pos) Γ d := fun H0 G H σ E Q q =>
  ⟨tFld W.K (wE F a) f, fun n => by have := pe_fld (X := F n) (pos := pos) (pe_w (F := F) (e := a) n) (hb n); rw [hF.K n] at this; exact this, h H0 G H σ E _ fun v G1 H1 n1 p1 => by
    obtain ⟨l, dx, vs, rfl, hl1, hd⟩ := dt_obj p1
    obtain ⟨w, hw, hdw⟩ := dtf_get hd hl
    exact ⟨l, C, dx, vs, w, rfl, n1.gh _ _ hl1, hc, hn, hw, q _ G1 H1 n1 hdw⟩⟩
/-- C.f, a constant of the class -/
theorem x_cval {x : Str} {mc u : Value} {p : Pos} {i : Int} (hF : Fam W k N F) (hm : W.mg x = some (.ref C)) (hr : ClX.CRead W.K C mc) (hv : ClX.CVal W.K C mc f (.int i) u) (hg : ∀ n, Gl (F n) x := by intro _; rfl) (hd : (x == ("__debug__" : Str)) = false := by decide) (hb : ∀ n, attributeBase (.Name x p) f (F n).env (eval (.Name x p) (F n).env) = eval (.Name x p) (F n).env := by intro _; rfl) : XD F (.Attribute (.Name x p) f pos) Γ (.int i) := fun H0 G H σ E Q q =>
  ⟨ClX.tCVal W.K (tC (.ref C)) f, fun n => by
    have := ClX.pe_cval (X := F n) (pos := pos) (f := f) (pe_glob (pos := p) (hg n) (by rw [hF.mg n]; exact hm) (show RelV (.ref C) (.ref C) from rfl) hd) (hb n)
    rw [hF.K n] at this
    exact this, ⟨C, mc, .int i, u, rfl, hr, hv, q _ G H (Nx.refl E.gh) (.int i)⟩⟩
/-- self.f = e, in the making -/
theorem s_fld {x : Str} {px pf : Pos} {l : Addr} (i : Nat) (hF : Fam W k N F) (hs : Γ[i]? = some (.mO l C fs)) (h : XD F e Γ d) (hc : Cls W.K C) (hn : NoAttr W.K C f) (hl : fs.lookup f = none) (hz : fs.length < 1000) (hN : N[i]? = some x := by rfl) (hvis : ∀ j, Vis (F j).env.scope x := by first | exact fun _ => Or.inl rfl | exact fun _ => Or.inr (Or.inl rfl))
    (hsw : ∀ n, swapsWith e (some (.Attribute (.Name x px) f pf)) pos.line (F n).env = pure false := by intro _; rfl) (hd : (x == ("__debug__" : Str)) = false := by decide) (hcd : (x == ("__classdict__" : Str)) = false := by decide) :
    XS F (.Assign [.Attribute (.Name x px) f pf] e pos) Γ (.nx (Γ.set i (.mO l C (fs ++ [(f, d)])))) := fun G0 H0 G H σ n E D q =>
  ⟨sFld W.K (tVar i) (wE F e) f, fun j => by have := ps_fld (X := F j) (pos := pos) (pos' := pf) (f := f) (pe_var (i := i) (pos := px) (by rw [hF.names j]; exact hN) (hvis j) hd hcd) (pe_w (F := F) (e := e) j) (hsw j); rw [hF.K j] at this; exact this, h H0 G H σ E _ fun v G1 H1 n1 p1 => by
    obtain ⟨w, hw, dx, vs, ev, h0, g, hh, dd⟩ := (E.mono n1).get hs (by intro z; cases z)
    subst ev
    refine ⟨.ref l, hw, l, C, dx, vs, rfl, hh, hc, hn, by rw [dtf_len dd]; exact hz, q σ G1 _ ((n.trans n1).mut h0 g) n1.gg ?_⟩
    exact (E.mono n1).change hs rfl hw ⟨dx, _, rfl, h0, g, upd_same, dtf_put dd p1 hl⟩⟩
/-! ### methods -/
/-- the method m of the class at C keeps the promise R, at level k -/
def Mt (W : Wd) (C : Addr) (m : Str) (k n : Nat) (R : List Dat → Sl → Prop) : Prop := ∃ g fd ps, Meth W.K C m g ∧ Binds W.K fd ps [] ∧ ps.length = n ∧ FnOk W.P W.w W.K W.mg W.base CX0 k g fd ps (SpD n R)
theorem fnok_at {j : Nat} {g : Addr} {fd : FuncData} {ps : List Str} {sp : Sp} {CX : CXT} (hF : Fam W k N F) (i : ι) (h : FnOk W.P W.w W.K W.mg W.base CX j g fd ps sp) : FnOk (F i).prog (F i).w (F i).K (F i).mg (F i).base CX j g fd ps sp := by
  rw [hF.prog i, hF.w i, hF.K i, hF.mg i, hF.base i]
  exact h
/-- o.m() -/
theorem x_meth0 {m : Str} {j : Nat} {R : List Dat → Sl → Prop} {apos : Pos} (hm : Mt W C m j 1 R) (hF : Fam W k N F) (hj : j ≤ k) (h : XD F a Γ (.obj C fs)) (hc : Cls W.K C) (hl : fs.lookup m = none) (hR : R [.obj C fs] s)
    (ht : ∀ n, ∃ pl : Sem Bool, eval (.Call (.Attribute a m apos) [] [] pos) (F n).env = (do
      let ov ← eval a (F n).env
      standAt apos.atName
      let (f, first) ← holding [ov] (getMethod ov m pl)
      callWith pos f first (backTo pos (starEach [] (F n).env)) (backToKw pos (keywordEach [] (F n).env))) := by intro _; exact ⟨_, rfl⟩) : XE F (.Call (.Attribute a m apos) [] [] pos) Γ s := fun H0 G H σ E Q q => by
  obtain ⟨g, fd, ps, h1, h2, h3, h4⟩ := hm
  refine ⟨tMeth C m (SpD 1 R) [] E0 (wE F a) tNil, fun i => ?_, h H0 G H σ E _ fun v G1 H1 n1 p1 => ?_⟩
  · obtain ⟨pl, e⟩ := ht i
    exact pe_meth0 (CX := CX0) (pl := pl) (k := j) (fd := fd) (ps := ps) (ds := []) (pe_w (F := F) (e := a) i) (by rw [hF.K i]; exact hc) (by rw [hF.K i]; exact h1) (fnok_at hF i h4) ((hF.room i).mono hj) (by rw [hF.K i]; exact h2) .nil pass0 e
  · have p1' := p1
    obtain ⟨l, dx, vs, rfl, hl1, hd⟩ := dt_obj p1
    refine ⟨l, dx, vs, rfl, n1.gh _ _ hl1, dtf_none hd hl, ?_⟩
    exact ⟨G1, [.obj C fs], s, n1.gh, .cons p1' .nil, rfl, hR, fun v G2 H2 n2 p2 => q v G2 H2 (n1.trans n2) (rsok_back n1.hh p2)⟩
/-- o.f, a property -/
def Pt (W : Wd) (C : Addr) (f : Str) (k : Nat) (R : List Dat → Sl → Prop) : Prop := ∃ p g fd ps, PropOf W.K C f p g ∧ Binds W.K fd ps [] ∧ ps.length = 1 ∧ FnOk W.P W.w W.K W.mg W.base CX0 k g fd ps (SpD 1 R)
theorem x_prop {j : Nat} {R : List Dat → Sl → Prop} (hp : Pt W C f j R) (hF : Fam W k N F) (hj : j + 1 ≤ k) (h : XD F a Γ (.obj C fs)) (hc : Cls W.K C) (hR : R [.obj C fs] s) (hb : ∀ n, attributeBase a f (F n).env (eval a (F n).env) = eval a (F n).env := by intro _; rfl) : XE F (.Attribute a f pos) Γ s := fun H0 G H σ E Q q => by
  obtain ⟨p, g, fd, ps, h1, h2, h3, h4⟩ := hp
  refine ⟨tProp C (SpD 1 R) [] E0 (wE F a), fun i => pe_prop (CX := CX0) (k := j) (fd := fd) (ps := ps) (ds := []) (pe_w (F := F) (e := a) i) (by rw [hF.K i]; exact hc) (by rw [hF.K i]; exact h1) (fnok_at hF i h4) ((hF.room i).mono hj) (by rw [hF.K i]; exact h2) .nil pass0 (hb i), h H0 G H σ E _ fun v G1 H1 n1 p1 => ?_⟩
  have p1' := p1
  obtain ⟨l, dx, vs, rfl, hl1, hd⟩ := dt_obj p1
  refine ⟨l, dx, vs, rfl, n1.gh _ _ hl1, ?_⟩
  exact ⟨G1, [.obj C fs], s, n1.gh, .cons p1' .nil, rfl, hR, fun v G2 H2 n2 p2 => q v G2 H2 (n1.trans n2) (rsok_back n1.hh p2)⟩
end
/-! ### len, abs of an own instance -/
section
variable {X : Cx} {CX : CXT} {k : Nat} {C g : Addr} {fd : FuncData} {ps : List Str} {sp : Sp} {E : XK}
def rOwn1 (C : Addr) (sp : Sp) (E : XK) (post : V → Hp → VK → Prop) : List V → Hp → VK → Prop := fun xs H Q => ∃ a dx fs, xs = [.ref a] ∧ H a = some (.ins C dx fs) ∧ sp [.ref a] H (fun v H' => post v H' Q) E
/-- the method of C that is asked, called within a built-in -/
theorem own_run {pins : List (Addr × Obj)} {σ : L2.St} {H : Hp} {s : Shared} {Q : VK} {a : Addr} {E' : Value → Shared → Prop} (F : FnOk X.prog X.w X.K X.mg X.base CX k g fd ps sp) (hr : Room (k + 1) X.A) (hb : Binds X.K fd ps []) (hx : Passes CX X.nox E) (I : L2.Inv X pins σ H s) (h : sp [.ref a] H Q E) :
    wpAny (model X.prog X.w) X.A.in1 (call (.ref g) [.ref a]) (EP X pins σ Q) E' s := by
  have hl : ([Value.ref a] ++ []).length = ps.length := by rw [← F.len _ _ _ _ h]; rfl
  refine wpAny_call (codeAny_mono (F.run X.A.in1 X.stack s H ⟨[.ref a], []⟩ [.ref a] [.ref a] Q E hr.in1 I.env0.in1 (hb s [.ref a] I.kIn hl) (.cons rfl .nil) h) fun r s' hq => ?_)
  cases r with
  | error er => exact False.elim (hx pins σ H s er s' (I.wish _) hq)
  | ok fl =>
    cases fl with
    | ret u => exact I.after hq
    | next => exact False.elim hq
    | brk => exact False.elim hq
    | cont => exact False.elim hq
theorem call_lenOwn (F : FnOk X.prog X.w X.K X.mg X.base CX k g fd ps sp) (hm : Meth X.K C "__len__" g) (hr : Room (k + 1) X.A) (hb : Binds X.K fd ps []) (hx : Passes CX X.nox E) :
    CallR X (.builtin "len") (rOwn1 C sp E fun v H Q => ∃ n : Nat, v = .int (n : Nat) ∧ n ≤ 100000 ∧ Q (.int (n : Nat)) H) := by
  intro pins s σ H xs us Q I rv h
  obtain ⟨a, dx, fs, rfl, ha, hsp⟩ := h
  obtain ⟨u, rfl, rx⟩ := vals1 rv
  cases rx
  obtain ⟨mA, O, _⟩ := ins_get I.hok ha
  obtain ⟨od, J, _⟩ := O.look
  obtain ⟨m, hF⟩ := I.fr
  refine PySem.W.len_K hF I.ok.mod.kin J hm.at_ hm.fn (wpAny_mono (own_run (E' := X.xe) F hr hb hx I hsp) (fun w s' hq => ?_) fun _ _ z => z)
  obtain ⟨v, H', I', rw', n, rfl, hn, q⟩ := hq
  obtain ⟨t, rfl⟩ := rw'
  exact ⟨⟨by omega, by omega⟩, ⟨.int (n : Nat), H', I'.tok _, ⟨_, rfl⟩, q⟩⟩
theorem call_absOwn (F : FnOk X.prog X.w X.K X.mg X.base CX k g fd ps sp) (hm : Meth X.K C "__abs__" g) (hr : Room (k + 1) X.A) (hb : Binds X.K fd ps []) (hx : Passes CX X.nox E) :
    CallR X (.builtin "abs") (rOwn1 C sp E fun v H Q => Q v H) := by
  intro pins s σ H xs us Q I rv h
  obtain ⟨a, dx, fs, rfl, ha, hsp⟩ := h
  obtain ⟨u, rfl, rx⟩ := vals1 rv
  cases rx
  obtain ⟨mA, O, _⟩ := ins_get I.hok ha
  obtain ⟨od, J, _⟩ := O.look
  refine PySem.Calls.call_function_entry PyProof.Rows.kind_abs PyProof.Rows.plain_abs PyProof.Rows.entry_abs (PyProof.Rows.args_abs _) ?_
  unfold Builtin.«abs»
  refine wpAny_bind (m := oneArg "abs" _) (wpAny_pure ?_)
  refine wpAny_bind (m := callSpecial? (.ref a) (Str.ofString "__abs__")) (PySem.W.special_fn I.kIn J hm.at_ (beq_iff_eq.mp hm.fn) (wpAny_mono (own_run (E' := X.xe) F hr hb hx I hsp) (fun w s' hq => ?_) fun _ _ z => z))
  obtain ⟨v, H', I', rw', q⟩ := hq
  exact wpAny_pure ⟨_, rfl, v, H', I', rw', q⟩
end
section
variable {ι : Type} {W : Wd} {k : Nat} {N : List Str} {F : ι → Cx} {Γ Γ1 Γ2 : List Sl} {a b c e : Expr} {es : List Expr} {st : Stmt} {sts : List Stmt} {d da db dc : Dat} {s : Sl} {o : Out} {pos : Pos} {P P1 P2 : Pr} {t : Bool} {ds : List Dat} {C : Addr} {fs gs : List (Str × Dat)} {f : Str}
theorem x_lenOwn {j n : Nat} {R : List Dat → Sl → Prop} {p : Pos} (hmt : Mt W C "__len__" j 1 R) (hm : W.mg "len" = none) (hF : Fam W k N F) (hj : j + 1 ≤ k) (h : XD F a Γ (.obj C fs)) (hR : R [.obj C fs] (.dat (.int (n : Nat)))) (hn : n ≤ 100000) (hg : ∀ n, Gl (F n) "len" := by intro _; rfl)
    (he : ∀ n, starEach [a] (F n).env = (false, eval a (F n).env) :: starEach [] (F n).env := by intro _; rfl) : XD F (.Call (.Name "len" p) [a] [] pos) Γ (.int (n : Nat)) := by
  obtain ⟨g, fd, ps, h1, h2, h3, h4⟩ := hmt
  refine x_c1 hF (fun i => call_lenOwn (CX := CX0) (E := E0) (fnok_at hF i h4) (by rw [hF.K i]; exact h1) ((hF.room i).mono hj) (by rw [hF.K i]; exact h2) pass0) hm PySem.boot_len h ?_ hg (he := he)
  intro H0 v G H e pd Q q
  have pd' := pd
  obtain ⟨l, dx, vs, rfl, hl, hd⟩ := dt_obj pd
  refine ⟨l, dx, vs, rfl, e _ _ hl, G, [.obj C fs], _, e, .cons pd' .nil, rfl, hR, fun v G2 H2 n2 p2 => ?_⟩
  cases p2
  exact ⟨n, rfl, hn, q _ G2 H2 n2 fun _ _ => .int _⟩
theorem x_absOwn {j : Nat} {R : List Dat → Sl → Prop} {p : Pos} (hmt : Mt W C "__abs__" j 1 R) (hm : W.mg "abs" = none) (hF : Fam W k N F) (hj : j + 1 ≤ k) (h : XD F a Γ (.obj C fs)) (hR : R [.obj C fs] (.dat d)) (hg : ∀ n, Gl (F n) "abs" := by intro _; rfl)
    (he : ∀ n, starEach [a] (F n).env = (false, eval a (F n).env) :: starEach [] (F n).env := by intro _; rfl) : XD F (.Call (.Name "abs" p) [a] [] pos) Γ d := by
  obtain ⟨g, fd, ps, h1, h2, h3, h4⟩ := hmt
  refine x_c1 hF (fun i => call_absOwn (CX := CX0) (E := E0) (fnok_at hF i h4) (by rw [hF.K i]; exact h1) ((hF.room i).mono hj) (by rw [hF.K i]; exact h2) pass0) hm (by decide +kernel) h ?_ hg (he := he)
  intro H0 v G H e pd Q q
  have pd' := pd
  obtain ⟨l, dx, vs, rfl, hl, hd⟩ := dt_obj pd
  exact ⟨l, dx, vs, rfl, e _ _ hl, G, [.obj C fs], _, e, .cons pd' .nil, rfl, hR, fun v G2 H2 n2 p2 => q v G2 H2 n2 fun _ _ => p2⟩
/-- a == b, two instances of one own class whose own == gives True -/
theorem cm_eqOwn {j : Nat} {R : List Dat → Sl → Prop} (hmt : Mt W C "__eq__" j 2 R) (hF : Fam W k N F) (hj : j ≤ k) (ha : XD F a Γ (.obj C fs)) (hb : XD F b Γ (.obj C gs)) (hR : R [.obj C fs, .obj C gs] (.dat (.bl true))) : Cm F Γ .Eq a b true := by
  obtain ⟨g, fd, ps, h1, h2, h3, h4⟩ := hmt
  refine ⟨_, _, _, fun i => op_eqG (rcG_ins (CX := CX0) (E := E0) (R := fun x y H => ∃ G, Ex G H ∧ Dt G (.ref x) (.obj C fs) ∧ Dt G (.ref y) (.obj C gs)) (fnok_at hF i (h4.imp ?_)) (by rw [hF.K i]; exact h1.at_) (by rw [hF.K i]; exact h1.fn) (by rw [hF.K i]; exact h2) pass0) ((hF.room i).mono hj), stb_rs, ha, hb, ?_, nomark _⟩
  · rintro vs H Q E ⟨x, y, rfl, ⟨G, e, p, q⟩, hq⟩
    refine ⟨G, [.obj C fs, .obj C gs], _, e, .cons p (.cons q .nil), rfl, hR, fun v G2 H2 n2 p2 => ?_⟩
    cases p2
    exact hq H2 n2.hh
  · intro H0 H00 x y G H e p q Q hQ
    have p' := p
    have q' := q
    obtain ⟨l, dx, vs, rfl, hl, _⟩ := dt_obj p
    obtain ⟨m, dy, ws, rfl, hm, _⟩ := dt_obj q
    exact ⟨⟨l, m, dx, dy, vs, ws, rfl, rfl, e _ _ hl, e _ _ hm, G, e, p', q'⟩, fun H' e' => hQ _ G H' ⟨e', Ex.refl G, e.trans e', fun _ _ _ _ h => h⟩ fun _ _ => .bl true⟩
/-- isinstance(a, C), a an instance of C -/
structure InsOk (K : PySem.W.Frag) (C : Addr) : Prop where
  cl : Cls K C
  ha : PySem.W.findIn K (.ref C) "__class__" = some (some (.builtin "object.__class__"))
  hn : PySem.W.specialIn K (.builtin "object.__class__") "__get__" = some (some (.builtin "getset_descriptor.__get__"))
  htk : PySem.W.takesIn K (.builtin "object.__class__") = some true
  hm : PySem.W.mroIn K C (.type "object") = some true
theorem x_isiOwn {x : Str} {p px : Pos} (hm : W.mg "isinstance" = none) (hF : Fam W k N F) (h : XD F a Γ (.obj C fs)) (hmC : W.mg x = some (.ref C)) (ok : InsOk W.K C)
    (hg : ∀ n, Gl (F n) "isinstance" := by intro _; rfl) (hgT : ∀ n, Gl (F n) x := by intro _; rfl) (hdb : (x == ("__debug__" : Str)) = false := by decide)
    (he : ∀ n, starEach [a, .Name x px] (F n).env = (false, eval a (F n).env) :: starEach [.Name x px] (F n).env := by intro _; rfl) (he2 : ∀ n, starEach [.Name x px] (F n).env = (false, eval (.Name x px) (F n).env) :: starEach [] (F n).env := by intro _; rfl)
    (hpl : ∀ n, (backTo pos (starEach [.Name x px] (F n).env)).any (·.1) = false := by intro _; rfl) :
    XD F (.Call (.Name "isinstance" p) [a, .Name x px] [] pos) Γ (.bl true) := fun H0 G H σ E Q q =>
  ⟨tCB (rIsi W.K) (tCons (wE F a) (tCons (tC (.ref C)) tNil)), fun n => by
      have hx := call_isi (X := F n)
      rw [hF.K n] at hx
      exact pe_callB hx (hg n) (by rw [hF.mg n]; exact hm) (by decide +kernel) (pa_cons (pe_w (F := F) (e := a) n) (pa_cons (pe_glob (v := .ref C) (hgT n) (by rw [hF.mg n]; exact hmC) (show RelV (.ref C) (.ref C) from rfl) hdb) pa_nil (he2 n)) (he n)) (by decide) (by decide) (he n) (hpl n),
    h H0 G H σ E _ fun v G1 H1 n1 p1 => by
      obtain ⟨l, dx, vs, rfl, hl, _⟩ := dt_obj p1
      refine ⟨.ref l, .ref C, .ref C, .ref C, true, rfl, .own C, .base (.ins (n1.gh _ _ hl) ok.cl ok.ha ok.hn ok.htk ok.hm), ?_, q _ G1 H1 n1 (.bl true)⟩
      unfold PySem.W.kitOne
      rw [if_pos (beq_self_eq_true _)]⟩
/-- k in d -/
theorem b_inD {kvs : List (List Int × Dat)} {key : List Int} (hF : Fam W k N F) (ha : XD F a Γ (tI key)) (hb : XDk F b Γ kvs) (hm : behindInMarks .In b = false := by rfl) : XB F (.Compare a [.In] [b] pos) Γ (valD kvs key).isSome := fun H0 G H σ E Q q =>
  ⟨_, fun n => pt_cmp (pc_din (hu1 hF n) (pe_w n) (pe_w n)) hm, ha H0 G H σ E _ fun y G1 H1 n1 p1 => hb H0 G1 H1 σ (E.mono n1) _ fun v G2 H2 n2 p2 => by
    obtain ⟨l, ps, ev, r, dd⟩ := p2
    obtain ⟨u, eu, hu⟩ := dkey (n1.trans n2).gh (dt_mono n2.gg p1)
    rcases dkv_val (k := key) dd with ⟨z1, z2⟩ | ⟨w, d', z1, z2, z3⟩
    · refine ⟨l, none, ev, .inr ⟨ps, kI key, u, r, eu, hu, z2.symm⟩, false, rfl, ?_⟩
      have := q G2 H2 (n1.trans n2)
      rw [z1] at this
      exact this
    · refine ⟨l, some w, ev, .inr ⟨ps, kI key, u, r, eu, hu, z2.symm⟩, true, rfl, ?_⟩
      have := q G2 H2 (n1.trans n2)
      rw [z1] at this
      exact this⟩
/-! ### making -/
/-- what an __init__ promises: from the data it gets to the fields it leaves -/
def SpI (C : Addr) (n : Nat) (R : List Dat → List (Str × Dat) → Prop) : Sp := fun vs Hc Q _ => ∃ H1 x dx G vs' ds fs, vs = V.ref x :: vs' ∧ H1 x = none ∧ H1 dx = none ∧ dx ≠ x ∧ Hc = upd (upd H1 dx (.own x)) x (.ins C dx []) ∧ Ex G H1 ∧ DtAll G vs' ds ∧ ds.length = n ∧ R ds fs ∧
  ∀ G' H' dx' vs2, Nx G H1 G' H' → G' x = none → H' x = some (.ins C dx' vs2) → DtFs G' vs2 fs → Q .non H'
/-- the class that the module's name x holds makes instances with fields by R -/
def Ct (W : Wd) (x : Str) (C : Addr) (k n : Nat) (R : List Dat → List (Str × Dat) → Prop) : Prop := W.mg x = some (.ref C) ∧ ∃ g fd ps, Mk W.K C g ∧ Binds W.K fd ps [] ∧ ps.length = n + 1 ∧ FnOk W.P W.w W.K W.mg W.base CX0 k g fd ps (SpI C n R)
theorem x_make {x : Str} {j n : Nat} {R : List Dat → List (Str × Dat) → Prop} {p : Pos} (hc : Ct W x C j n R) (hF : Fam W k N F) (hj : j + 1 ≤ k) (ha : XA F (e :: es) Γ ds) (hl : ds.length = n) (hR : R ds fs) (hg : ∀ n, Gl (F n) x := by intro _; rfl) (hdb : (x == ("__debug__" : Str)) = false := by decide)
    (he : ∀ n, starEach (e :: es) (F n).env = (false, eval e (F n).env) :: starEach es (F n).env := by intro _; rfl) (hpl : ∀ n, (backTo pos (starEach es (F n).env)).any (·.1) = false := by intro _; rfl) :
    XD F (.Call (.Name x p) (e :: es) [] pos) Γ (.obj C fs) := fun H0 G H σ E Q q => by
  obtain ⟨h0, g, fd, ps, h1, h2, h3, h4⟩ := hc
  refine ⟨tMake C (SpI C n R) [] E0 (wA F (e :: es)), fun i => pe_make (CX := CX0) (k := j) (fd := fd) (ps := ps) (ds := []) (f := g) (by rw [hF.K i]; exact h1) (fnok_at hF i h4) ((hF.room i).mono hj) (hg i) (by rw [hF.mg i]; exact h0) (by rw [hF.K i]; exact h2) .nil pass0 (pa_w i) hdb (he i) (hpl i),
    ha H0 G H σ E _ fun vs G1 H1 n1 p1 => fun x dx hx hdx hne => ?_⟩
  refine ⟨H1, x, dx, G1, vs ++ [], ds, fs, rfl, hx, hdx, hne, rfl, n1.gh, by rw [List.append_nil]; exact p1, hl, hR, fun G2 H2 dx2 vs2 n2 g2 hh hd => ⟨rfl, ?_⟩⟩
  exact q _ _ H2 (n1.trans (n2.show hx g2 hh)) (.obj upd_same (dtf_mono (Ex.new g2) hd))
/-- .. its __init__ by its body -/
theorem init_mk {m qual : Str} {st : Stmt} {N ps : List Str} {k n : Nat} {R : List Dat → List (Str × Dat) → Prop} {g : Addr} {fd : FuncData} (hf : FunD W.K m qual (defArgs st) (defBody st) (defScope st) [] [] g fd) (S : FnScope N ps (defScope st)) (hn : ps.length = n + 1)
    (body : ∀ (l : Addr) (f : Addr) (cdv : Value) (A : Around) (outer : List PySem.Env) (s0 : Shared) (H : Hp) (E : XK), Fam W k N (bodyF W N qual (defScope st) f cdv A outer s0 H E) → ∀ ds fs, R ds fs → ds.length = n → ∃ Γ', XSs (bodyF W N qual (defScope st) f cdv A outer s0 H E) (defBody st) (.mO l C [] :: (ds.map .dat ++ List.replicate (N.length - (ds.length + 1)) .no)) (.nx Γ') ∧ Γ'[0]? = some (.mO l C fs)) :
    FnOk W.P W.w W.K W.mg W.base CX0 (k + 1) g fd ps (SpI C n R) := by
  refine hf.ok S (fun vs H Q E h => ?_) fun cdv A outer s H vs Q E hr hsp => ?_
  · obtain ⟨H1, x, dx, G, vs', ds, fs, rfl, _, _, _, _, _, hd, hl, _⟩ := h
    rw [List.length_cons, dta_len hd, hl, hn]
  obtain ⟨H1, x, dx, G, vs', ds, fs, rfl, hx, hdx, hne, rfl, e, hd, hl, hR, hq⟩ := hsp
  have hF : Fam W k N (bodyF W N qual (defScope st) g cdv A outer s (upd (upd H1 dx (.own x)) x (.ins C dx [])) E) := ⟨fun _ => rfl, fun _ => rfl, fun _ => rfl, fun _ => rfl, fun _ => rfl, fun _ => rfl, fun _ => rfl, fun _ => hr, S.nd, fun _ => PassesOwn.never⟩
  obtain ⟨Γ', hs, h0⟩ := body x g cdv A outer s _ E hF ds fs hR hl
  have gx : G x = none := fresh_back e hx
  have e1 : Ex H1 (upd H1 dx (.own x)) := Ex.new hdx
  have hx1 : upd H1 dx (.own x) x = none := by rw [upd_ne hne.symm]; exact hx
  have e2 : Ex (upd H1 dx (.own x)) (upd (upd H1 dx (.own x)) x (.ins C dx [])) := Ex.new hx1
  have nx : Nx G H1 G (upd (upd H1 dx (.own x)) x (.ins C dx [])) := ⟨e1.trans e2, Ex.refl G, e.trans (e1.trans e2), fun _ _ _ _ h => h⟩
  have lv : vs'.length = ds.length := dta_len hd
  have hpl : ps.length ≤ N.length := by have := congrArg List.length S.pre; rw [List.length_take] at this; omega
  have Ev : Env H1 G (upd (upd H1 dx (.own x)) x (.ins C dx [])) (L2.start N (V.ref x :: vs')) (.mO x C [] :: (ds.map .dat ++ List.replicate (N.length - (ds.length + 1)) .no)) := by
    refine ⟨e1.trans e2, nx.gh, ?_, fun i s hi => ?_, fun i j s t a h1 h2 o1 o2 h3 h4 => ?_⟩
    · unfold L2.start
      simp only [List.length_append, List.length_map, List.length_replicate, List.length_cons, lv]
      omega
    · cases i with
      | zero =>
        cases hi
        exact .inr ⟨.ref x, rfl, dx, [], rfl, hx, gx, upd_same, .nil⟩
      | succ i =>
        have hi' : (ds.map Sl.dat ++ List.replicate (N.length - (ds.length + 1)) .no)[i]? = some s := by simpa using hi
        by_cases c : i < ds.length
        · rw [List.getElem?_append_left (by simpa using c), List.getElem?_map] at hi'
          cases hdi : ds[i]? with
          | none => rw [hdi] at hi'; cases hi'
          | some d =>
            rw [hdi] at hi'
            cases hi'
            obtain ⟨v, hv, hdv⟩ := dta_get hd hdi
            refine .inr ⟨v, ?_, hdv⟩
            unfold L2.start
            rw [List.map_cons, List.cons_append, List.getElem?_cons_succ, List.getElem?_append_left (by rw [List.length_map, lv]; exact c), List.getElem?_map, hv]
            rfl
        · rw [List.getElem?_append_right (by simpa using c), List.getElem?_replicate] at hi'
          split at hi'
          · cases hi'
            exact .inl rfl
          · cases hi'
    · have key : ∀ {i : Nat} {s : Sl}, ((.mO x C [] :: (ds.map Sl.dat ++ List.replicate (N.length - (ds.length + 1)) .no)) : List Sl)[i]? = some s → s.own = true → i = 0 := fun {i s} hi os => by
        cases i with
        | zero => rfl
        | succ i =>
          have hi' : (ds.map Sl.dat ++ List.replicate (N.length - (ds.length + 1)) .no)[i]? = some s := by simpa using hi
          by_cases c : i < ds.length
          · rw [List.getElem?_append_left (by simpa using c), List.getElem?_map] at hi'
            cases hdi : ds[i]? with
            | none => rw [hdi] at hi'; cases hi'
            | some d => rw [hdi] at hi'; cases hi'; cases os
          · rw [List.getElem?_append_right (by simpa using c), List.getElem?_replicate] at hi'
            split at hi'
            · cases hi'; cases os
            · cases hi'
      exact (key h1 o1).trans (key h2 o2).symm
  refine ⟨wSs (bodyF W N qual (defScope st) g cdv A outer s _ E) (defBody st), (pss_w (F := bodyF W N qual (defScope st) g cdv A outer s _ E) ()).nox, hs G H1 G _ _ nx Ev _ ?_⟩
  intro σ G' H' n' _ E'
  obtain ⟨v, _, dx', vs2, rfl, _, g', hh, hdd⟩ := E'.get h0 (by intro z; cases z)
  exact hq G' H' dx' vs2 n' g' hh hdd
/-- a method by its body -/
theorem mt_core {m qual : Str} {st : Stmt} {N ps : List Str} {k n : Nat} {R : List Dat → Sl → Prop} {g : Addr} {fd : FuncData} (hf : FunD W.K m qual (defArgs st) (defBody st) (defScope st) [] [] g fd) (S : FnScope N ps (defScope st)) (hn : ps.length = n)
    (body : ∀ (f : Addr) (cdv : Value) (A : Around) (outer : List PySem.Env) (s0 : Shared) (H : Hp) (E : XK), Fam W k N (bodyF W N qual (defScope st) f cdv A outer s0 H E) → ∀ ds r, R ds r → ds.length = n → ∃ o, XSs (bodyF W N qual (defScope st) f cdv A outer s0 H E) (defBody st) (gam N ds) o ∧ OutRes o r) :
    FnOk W.P W.w W.K W.mg W.base CX0 (k + 1) g fd ps (SpD n R) := by
  refine hf.ok S (fun vs H Q E h => h.len.trans hn.symm) fun cdv A outer s H vs Q E hr hsp => ?_
  obtain ⟨G, ds, r, e, hd, hl, hR, hq⟩ := hsp
  have hF : Fam W k N (bodyF W N qual (defScope st) g cdv A outer s H E) := ⟨fun _ => rfl, fun _ => rfl, fun _ => rfl, fun _ => rfl, fun _ => rfl, fun _ => rfl, fun _ => rfl, fun _ => hr, S.nd, fun _ => PassesOwn.never⟩
  obtain ⟨o, hs, ho⟩ := body g cdv A outer s H E hF ds r hR hl
  refine ⟨wSs (bodyF W N qual (defScope st) g cdv A outer s H E) (defBody st), (pss_w (F := bodyF W N qual (defScope st) g cdv A outer s H E) ()).nox, hs G H G H _ (Nx.refl e) (env_start e hd) _ ?_⟩
  cases ho with
  | rt => exact fun v G' H' n _ p => hq v G' H' n p
  | nx Γ => exact fun σ G' H' n _ _ => hq .non G' H' n .non
end
end FX
/-! part D11 -/
set_option Elab.async false
set_option linter.all false
set_option maxRecDepth 100000
set_option maxHeartbeats 4000000
namespace K84
open PySem PySem.Spec PyProof.Rows L2 Evl FX
variable {W : Wd}
def dummy : Stmt := .Pass ⟨0, 0, 0, 0⟩
def meth (i j : Nat) : Stmt := inClass (top i) j
/-- what is known of the class Book -/
structure BkF (W : Wd) (C : Addr) : Prop where
  gl : W.mg "Book" = some (.ref C)
  cl : Cls W.K C
  np : NoAttr W.K C "places"
  nz : NoAttr W.K C "size"
  nr : NoAttr W.K C "rooms"
  mp : ∃ mc u, ClX.CRead W.K C mc ∧ ClX.CVal W.K C mc "MOST_PLACES" (.int 12) u
  ins : InsOk W.K C
  init : ∃ g fd, Mk W.K C g ∧ FunD W.K "__init__" "Book.__init__" (defArgs (meth 18 1)) (defBody (meth 18 1)) (defScope (meth 18 1)) [] [] g fd
  eq : ∃ g fd, Meth W.K C "__eq__" g ∧ FunD W.K "__eq__" "Book.__eq__" (defArgs (meth 18 3)) (defBody (meth 18 3)) (defScope (meth 18 3)) [] [] g fd
  even : ∃ p g fd, PropOf W.K C "is_even" p g ∧ FunD W.K "is_even" "Book.is_even" (defArgs (meth 18 9)) (defBody (meth 18 9)) (defScope (meth 18 9)) [] [] g fd
  two : ∃ p g fd, PropOf W.K C "is_two_each" p g ∧ FunD W.K "is_two_each" "Book.is_two_each" (defArgs (meth 18 10)) (defBody (meth 18 10)) (defScope (meth 18 10)) [] [] g fd
  odd : ∃ g fd, Meth W.K C "odd_faces" g ∧ FunD W.K "odd_faces" "Book.odd_faces" (defArgs (meth 18 11)) (defBody (meth 18 11)) (defScope (meth 18 11)) [] [] g fd
/-- a room: rising places -/
def isRoom (p z : Nat) (r : List Int) : Prop := r.length = z ∧ (∀ x ∈ r, 0 ≤ x ∧ x < p) ∧ r.Pairwise (· < ·)
abbrev bookFs (p z : Nat) (rooms : List (List Int)) : List (Str × Dat) := [("places", nD p), ("size", nD z), ("rooms", .sq true (rooms.map tI))]
def Rbook : List Dat → List (Str × Dat) → Prop := fun ds fs => ∃ (p z : Nat) (rooms : List (List Int)), ds = [nD p, nD z, rmsD rooms] ∧ 1 ≤ p ∧ p ≤ 12 ∧ 1 ≤ z ∧ z ≤ p ∧ rooms.length ≤ 5000 ∧ (∀ r ∈ rooms, isRoom p z r) ∧ rooms.Nodup ∧ fs = bookFs p z (sortR rooms)
theorem sortI_self {l : List Int} (h : l.Pairwise (· < ·)) : sortI l = l := sortI_unique (List.Perm.refl _) (h.imp fun h => Int.le_of_lt h)
theorem asc_nodup {l : List Int} (h : l.Pairwise (· < ·)) : l.Nodup := h.imp fun h => Int.ne_of_lt h
def knownT (rs : List (List Int)) : List (List Int × Bool) := rs.map fun r => (r, true)
theorem knownT_val {rs : List (List Int)} {r : List Int} (h : r ∉ rs) : valA (knownT rs) r = none := by
  unfold valA knownT
  rw [List.find?_map, Option.map_map, List.find?_eq_none.mpr]
  · rfl
  · intro x hx
    show ¬ decide (x = r) = true
    rw [decide_eq_true_iff]
    exact fun z => h (z ▸ hx)
theorem knownT_put {rs : List (List Int)} {r : List Int} (h : r ∉ rs) : putA (knownT rs) r true = knownT (rs ++ [r]) := by
  unfold putA
  have : ((knownT rs).any fun p => decide (p.1 = r)) = false := by
    rw [List.any_eq_false]
    intro x hx
    obtain ⟨y, hy, rfl⟩ := List.mem_map.mp hx
    show ¬ decide (y = r) = true
    rw [decide_eq_true_iff]
    exact fun z => h (z ▸ hy)
  rw [this, if_neg Bool.false_ne_true]
  unfold knownT
  rw [List.map_append]
  rfl
theorem sc_book : FnScope ["self", "places", "size", "rooms", "known", "at", "listed", "fault", "room"] ["self", "places", "size", "rooms"] (defScope (meth 18 1)) := ⟨rfl, rfl, rfl, by decide +kernel, rfl, by decide +kernel, by decide +kernel⟩
theorem ok_book {C : Addr} (T : Bi W) (B : BkF W C) (Cf : Fn W "room_fault" 1 3 Rfault) : Ct W "Book" C 2 3 Rbook := by
  obtain ⟨g, fd, hmk, hfd⟩ := B.init
  obtain ⟨mc, um, hcr, hcv⟩ := B.mp
  refine ⟨B.gl, g, fd, _, hmk, hfd.bindsN (ps := ["self", "places", "size", "rooms"]) (fun _ _ _ _ _ _ us hl => match us, hl with | [_, _, _, _], _ => rfl), rfl, init_mk hfd sc_book rfl fun l f cdv A outer s0 H E hF ds fs hR _ => ?_⟩
  obtain ⟨p, z, rooms, rfl, h1, h2, h3, h4, h5, h6, h7, rfl⟩ := hR
  refine ⟨_, ss_cons (s_ifN (XB.is (b_not (b_leLe x_int (xv 1 hF) (x_cval hF B.gl hcr hcv))) ?_)) (ss_cons (s_ifN (XB.is (b_not (b_leLe x_int (xv 2 hF) (xv 1 hF))) ?_)) (ss_cons (s_set 4 hF o_dnew)
    (ss_cons (s_forE (l := rooms) (enc := tI) [5, 6] (fun j => [.mO l C [], .dat (nD p), .dat (nD z), .dat (rmsD rooms), .mD (encK .bl (knownT (rooms.take j))), .no, .no, .no, .no]) hF (i_enum T.enumerate hF (xv 3 hF)) (.same (.same (.same (.same (.same (.same (.same (.same (.same .nil))))))))) ?_)
    (ss_cons (s_fld 0 hF rfl (xv 1 hF) B.cl B.np rfl (Nat.le_of_ble_eq_true rfl)) (ss_cons (s_fld 0 hF rfl (xv 2 hF) B.cl B.nz rfl (Nat.le_of_ble_eq_true rfl)) (ss_one (s_fld 0 hF rfl (XD.is (x_tupL T.tuple hF (q_mL (o_sortK T.sorted hF (k_var 4 hF) ?_))) (da := .sq true ((sortR rooms).map tI)) ?_) B.cl B.nr rfl (Nat.le_of_ble_eq_true rfl)))))))), rfl⟩
  · rw [decide_eq_true (show (1 : Int) ≤ (p : Nat) by omega), decide_eq_true (show ((p : Nat) : Int) ≤ 12 by omega)]
    rfl
  · rw [decide_eq_true (show (1 : Int) ≤ (z : Nat) by omega), decide_eq_true (show ((z : Nat) : Int) ≤ (p : Nat) by omega)]
    rfl
  · intro j r hj
    have hm := List.mem_of_getElem? hj
    obtain ⟨r1, r2, r3⟩ := h6 r hm
    have hnew : r ∉ rooms.take j := fun hin => by
      obtain ⟨i, hi, hie⟩ := List.mem_iff_getElem.mp hin
      rw [List.length_take] at hi
      rw [List.getElem_take] at hie
      have hjl := (List.getElem?_eq_some_iff.mp hj).1
      have hje := (List.getElem?_eq_some_iff.mp hj).2
      exact List.pairwise_iff_getElem.mp h7 i j (by omega) hjl (by omega) (hie.trans hje.symm)
    refine ⟨_, _, g_tup hF (gs_cons (g_name 5 hF) (gs_cons (g_name 6 hF) gs_nil)), ss_cons (s_set 7 hF (x_call Cf hF (by decide) (xa_cons (xv 1 hF) (xa_cons (xv 2 hF) (xa_cons (xv 6 hF) xa_nil))) rfl ⟨(p : Nat), (z : Nat), r, rfl, by omega, .inl ⟨by omega, r2, asc_nodup r3, rfl⟩⟩))
      (ss_cons (s_set 8 hF (XD.is (x_tupL T.tuple hF (q_mL (o_sorted T.sorted hF (q_of (xv 6 hF)) (ok_ints (by omega))))) (da := tI r) ?_))
      (ss_cons (s_ifN (XB.is (b_w (w_and (b_cm (cm_eqS (xv 7 hF) x_str)) fun _ => w_and1 (b_inD (key := r) hF (xv 8 hF) (k_var 4 hF)))) ?_)) (ss_cons (s_ifN (XB.is (b_cm (cm_neS (xv 7 hF) x_str)) (decide_eq_false (fun z => z rfl))))
      (ss_one (s_dput (key := r) 4 hF rfl (xv 8 hF) x_bl ?_))))), _, .inl rfl, ?_⟩
    · rw [sort_ints, sortI_self r3]
    · rw [valD_enc, knownT_val hnew]
      rfl
    · rw [encK_len]
      unfold knownT
      rw [List.length_map, List.length_take]
      omega
    · show Wk [_, _, _, _, .mD (putD _ r (.bl true)), _, _, _, _] _
      rw [putD_enc, knownT_put hnew, show rooms.take j ++ [r] = rooms.take (j + 1) by rw [List.take_add_one, hj]; rfl]
      exact .same (.same (.same (.same (.same (.drop (.drop (.drop (.drop .nil))))))))
  · rw [List.take_length]
    unfold encK knownT
    rw [List.map_map, List.map_map]
    exact ok_rows (by omega) (.inl fun r hr => by
      have := (h6 r hr).1
      intro z
      subst z
      simp at this
      omega)
  · rw [List.take_length]
    unfold encK knownT
    rw [List.map_map, List.map_map]
    exact congrArg (Dat.sq true) (sort_rows rooms)
/-! ### Book's methods -/
theorem py_rows (rs : List (List Int)) : (Dat.sq true (rs.map tI)).py = .tuple (rs.map fun r => .tuple (r.map .int)) := by
  rw [Dat.py, pyAll_map, List.map_map]
  exact congrArg PyData.tuple (List.map_congr_left fun r _ => py_tI r)
theorem shaped_rows (rs : List (List Int)) : SeqAt.shaped (Dat.sq true (rs.map tI)).py = true := by
  have k1 : ∀ ns : List Int, PyData.canLayAll0 (ns.map .int) = true := fun ns => by
    induction ns with
    | nil => simp [PyData.canLayAll0]
    | cons n ns ih => rw [List.map_cons, PyData.canLayAll0, ih, PyData.canLay0]; rfl
  have k2 : ∀ rs : List (List Int), PyData.canLayAll0 (rs.map fun r => .tuple (r.map .int)) = true := fun rs => by
    induction rs with
    | nil => simp [PyData.canLayAll0]
    | cons n ns ih => rw [List.map_cons, PyData.canLayAll0, ih, PyData.canLay0, k1]; rfl
  have k3 : ∀ rs : List (List Int), PyData.depthAll (rs.map fun r => .tuple (r.map .int)) ≤ 1 := fun rs => by
    induction rs with
    | nil => simp [PyData.depthAll]
    | cons n ns ih =>
      rw [List.map_cons, PyData.depthAll, PyData.depth, PySem.W.depth_ints]
      omega
  unfold SeqAt.shaped
  rw [py_rows, PyData.canLay0, k2, PyData.depth, Bool.true_and, decide_eq_true_iff]
  have := k3 rs
  omega
theorem sc_beq : FnScope ["self", "other"] ["self", "other"] (defScope (meth 18 3)) := ⟨rfl, rfl, rfl, by decide +kernel, rfl, by decide +kernel, by decide +kernel⟩
def Rbeq (C : Addr) : List Dat → Sl → Prop := fun ds s => ∃ (p z : Nat) (rooms : List (List Int)), ds = [.obj C (bookFs p z rooms), .obj C (bookFs p z rooms)] ∧ s = .dat (.bl true)
theorem ok_beq {C : Addr} (T : Bi W) (B : BkF W C) : Mt W C "__eq__" 1 2 (Rbeq C) := by
  obtain ⟨g, fd, hm, hfd⟩ := B.eq
  refine ⟨g, fd, _, hm, hfd.bindsN (ps := ["self", "other"]) (fun _ _ _ _ _ _ us hl => match us, hl with | [_, _], _ => rfl), rfl, mt_core hfd sc_beq rfl fun f cdv A outer s0 H E hF ds r hR _ => ?_⟩
  obtain ⟨p, z, rooms, rfl, rfl⟩ := hR
  refine ⟨_, ss_one (s_ret (XD.is (x_and (x_isiOwn T.isinstance hF (xv 1 hF) B.gl B.ins) fun _ => x_and (x_cm (cm_eq (i := (p : Nat)) (j := (p : Nat)) (x_fld hF (xv 0 hF) B.cl B.np rfl) (x_fld hF (xv 1 hF) B.cl B.np rfl))) fun _ => x_and (x_cm (cm_eq (i := (z : Nat)) (j := (z : Nat)) (x_fld hF (xv 0 hF) B.cl B.nz rfl) (x_fld hF (xv 1 hF) B.cl B.nz rfl))) fun _ =>
    x_one (x_cm (cm_eqD hF (x_fld hF (xv 0 hF) B.cl B.nr rfl) (x_fld hF (xv 1 hF) B.cl B.nr rfl) (by rw [Dat.flat]; exact flat_rows rooms) (by rw [Dat.flat]; exact flat_rows rooms) (shaped_rows rooms) (shaped_rows rooms)))) ?_)), .rt _⟩
  rw [SeqAt.eqv_refl _ (SeqAt.canLay_of_shaped (shaped_rows rooms)), decide_eq_true rfl, decide_eq_true rfl]
  rfl
/-- the faces that stand in an odd number of rooms -/
def oddF (rooms : List (List Int)) : List (List Int) := sortR (((cntL (rooms.flatMap fcs)).filter fun p => decide (p.2 % 2 = 1)).map (·.1))
theorem sc_bodd : FnScope ["self", "counts", "face"] ["self"] (defScope (meth 18 11)) := ⟨rfl, rfl, rfl, by decide +kernel, rfl, by decide +kernel, by decide +kernel⟩
def Rbodd (C : Addr) : List Dat → Sl → Prop := fun ds s => ∃ (p z : Nat) (rooms : List (List Int)), ds = [.obj C (bookFs p z rooms)] ∧ 1 ≤ z ∧ rooms.length ≤ 5000 ∧ (∀ r ∈ rooms, r.length = z ∧ r.length ≤ 12) ∧ s = .mL ((oddF rooms).map tI)
theorem cnt_get {L : List (List Int)} {p : List Int × Int} (h : p ∈ cntL L) : valD (encK .int (cntL L)) p.1 = some (.int p.2) := by
  rw [valD_enc]
  have hnd := (cntL_ok L).2.2.1
  have key : ∀ l : List (List Int × Int), (l.map (·.1)).Nodup → p ∈ l → valA l p.1 = some p.2 := fun l hn hp => by
    induction l with
    | nil => cases hp
    | cons q l ih =>
      unfold valA
      rw [List.find?_cons]
      rw [List.map_cons, List.nodup_cons] at hn
      rcases List.mem_cons.mp hp with rfl | hp
      · rw [decide_eq_true rfl]
        rfl
      · have : ¬ q.1 = p.1 := fun z => hn.1 (List.mem_map.mpr ⟨p, hp, z.symm⟩)
        rw [decide_eq_false this]
        exact ih hn.2 hp
  rw [key _ hnd h]
  rfl
theorem fcs_mem {r f : List Int} (h : f ∈ fcs r) : f.length = r.length - 1 := by
  unfold fcs at h
  obtain ⟨k, hk, rfl⟩ := List.mem_map.mp h
  exact List.length_eraseIdx_of_lt (List.mem_range.mp hk)
/-- rows of one length, each once: none is empty, or there is but one -/
theorem rows_ok {rs : List (List Int)} {n : Nat} (hn : rs.Nodup) (h : ∀ r ∈ rs, r.length = n) : (∀ r ∈ rs, r ≠ []) ∨ rs.length < 2 := by
  cases n with
  | zero =>
    refine .inr ?_
    match rs, hn, h with
    | [], _, _ => decide
    | [_], _, _ => exact Nat.lt_succ_self 1
    | a :: b :: rs, hn, h =>
      have ha := List.length_eq_zero_iff.mp (h a (by simp))
      have hb := List.length_eq_zero_iff.mp (h b (by simp))
      rw [List.nodup_cons] at hn
      exact absurd (by rw [ha, hb]; simp) hn.1
  | succ n => exact .inl fun r hr z => by have := h r hr; rw [z] at this; simp at this
theorem ok_bodd {C : Addr} (T : Bi W) (B : BkF W C) (Cc : Fn W "face_counts" 2 1 Rcounts) : Mt W C "odd_faces" 3 1 (Rbodd C) := by
  obtain ⟨g, fd, hm, hfd⟩ := B.odd
  refine ⟨g, fd, _, hm, hfd.bindsN (ps := ["self"]) (fun _ _ _ _ _ _ us hl => match us, hl with | [_], _ => rfl), rfl, mt_core hfd sc_bodd rfl fun f cdv A outer s0 H E hF ds r hR _ => ?_⟩
  obtain ⟨p, z, rooms, rfl, hz, hl, hr, rfl⟩ := hR
  obtain ⟨c1, c2, c3, c4⟩ := cntL_ok (rooms.flatMap fcs)
  have hfl := flat_len (rooms := rooms) fun r h => (hr r h).2
  have hfle := List.length_filter_le (fun p : List Int × Int => decide (p.2 % 2 = 1)) (cntL (rooms.flatMap fcs))
  refine ⟨_, ss_cons (s_set 1 hF (x_call Cc hF (by decide) (xa_cons (x_fld hF (xv 0 hF) B.cl B.nr rfl) xa_nil) rfl ⟨true, rooms, rfl, hl, fun r h => (hr r h).2, rfl⟩))
    (ss_one (s_ret (XE.is (o_sorted T.sorted hF (q_mL (XE.is (t := .mL ((((cntL (rooms.flatMap fcs)).filter fun p => decide (p.2 % 2 = 1)).map (·.1)).map tI)) (o_lock 1 rfl (o_lcf [2] [("face", 2)] (defScope (meth 18 11)) (cntL (rooms.flatMap fcs)) (fun p => tI p.1) (fun p => decide (p.2 % 2 = 1)) (fun p => tI p.1) hF (XI.is (i_dic hF (xv 1 hF)) ?_) (by omega) fun hB q hq => ⟨_, g_name 2 hB, t_one (b_cm (cm_eq (x_mod (x_dget (key := q.1) hB (k_dic (xv 1 hB)) (xv 2 hB) (cnt_get hq)) x_int (by decide)) x_int)), fun _ => xv 2 hB⟩) ?_) ?_)) ?_) ?_))), .rt _⟩
  · unfold encK
    rw [List.map_map]
    rfl
  · rw [show (fun p : List Int × Int => tI p.1) = tI ∘ (fun p : List Int × Int => p.1) from rfl, ← List.map_map]
    exact flat_rows _
  · rw [show (fun p : List Int × Int => tI p.1) = tI ∘ (fun p : List Int × Int => p.1) from rfl, ← List.map_map]
  · refine ok_rows (by rw [List.length_map]; omega) (rows_ok (n := z - 1) (c3.sublist (List.filter_sublist.map _)) fun f hf => ?_)
    obtain ⟨q, hq, rfl⟩ := List.mem_map.mp hf
    have := (c4 q.1).mp (List.mem_map.mpr ⟨q, (List.mem_filter.mp hq).1, rfl⟩)
    obtain ⟨r, hr', hf'⟩ := List.mem_flatMap.mp this
    rw [fcs_mem hf', (hr r hr').1]
  · rw [sort_rows]
    rfl
theorem sc_beven : FnScope ["self"] ["self"] (defScope (meth 18 9)) := ⟨rfl, rfl, rfl, by decide +kernel, rfl, by decide +kernel, by decide +kernel⟩
def Rbeven (C : Addr) : List Dat → Sl → Prop := fun ds s => ∃ (p z : Nat) (rooms : List (List Int)), ds = [.obj C (bookFs p z rooms)] ∧ 1 ≤ z ∧ rooms.length ≤ 5000 ∧ (∀ r ∈ rooms, r.length = z ∧ r.length ≤ 12) ∧ s = .dat (.bl (decide ((oddF rooms).length = 0)))
theorem ok_beven {C : Addr} (T : Bi W) (B : BkF W C) (Cc : Mt W C "odd_faces" 3 1 (Rbodd C)) : Pt W C "is_even" 4 (Rbeven C) := by
  obtain ⟨pp, g, fd, hm, hfd⟩ := B.even
  refine ⟨pp, g, fd, _, hm, hfd.bindsN (ps := ["self"]) (fun _ _ _ _ _ _ us hl => match us, hl with | [_], _ => rfl), rfl, mt_core hfd sc_beven rfl fun f cdv A outer s0 H E hF ds r hR _ => ?_⟩
  obtain ⟨p, z, rooms, rfl, hz, hl, hr, rfl⟩ := hR
  refine ⟨_, ss_one (s_ret (XD.is (x_cm (cm_eq (x_lenM T.len hF (q_mL (x_meth0 Cc hF (by decide) (xv 0 hF) B.cl rfl ⟨p, z, rooms, rfl, hz, hl, hr, rfl⟩))) x_int)) ?_)), .rt _⟩
  congr 1
  exact decide_eq_decide.mpr (by omega)
theorem sc_btwo : FnScope ["self", "counts", "face"] ["self"] (defScope (meth 18 10)) := ⟨rfl, rfl, rfl, by decide +kernel, rfl, by decide +kernel, by decide +kernel⟩
def Rbtwo (C : Addr) : List Dat → Sl → Prop := fun ds s => ∃ (p z : Nat) (rooms : List (List Int)), ds = [.obj C (bookFs p z rooms)] ∧ rooms.length ≤ 5000 ∧ (∀ r ∈ rooms, r.length ≤ 12) ∧ s = .dat (.bl (decide (((cntL (rooms.flatMap fcs)).filter fun p => decide (p.2 ≠ 2)).length = 0)))
theorem ok_btwo {C : Addr} (T : Bi W) (B : BkF W C) (Cc : Fn W "face_counts" 2 1 Rcounts) : Pt W C "is_two_each" 3 (Rbtwo C) := by
  obtain ⟨pp, g, fd, hm, hfd⟩ := B.two
  refine ⟨pp, g, fd, _, hm, hfd.bindsN (ps := ["self"]) (fun _ _ _ _ _ _ us hl => match us, hl with | [_], _ => rfl), rfl, mt_core hfd sc_btwo rfl fun f cdv A outer s0 H E hF ds r hR _ => ?_⟩
  obtain ⟨p, z, rooms, rfl, hl, hr, rfl⟩ := hR
  obtain ⟨c1, c2, c3, c4⟩ := cntL_ok (rooms.flatMap fcs)
  have hfl := flat_len (rooms := rooms) hr
  refine ⟨_, ss_cons (s_set 1 hF (x_call Cc hF (by decide) (xa_cons (x_fld hF (xv 0 hF) B.cl B.nr rfl) xa_nil) rfl ⟨true, rooms, rfl, hl, hr, rfl⟩))
    (ss_one (s_ret (XD.is (x_cm (cm_eq (x_lenM T.len hF (q_mL (o_lock 1 rfl (o_lcf [2] [("face", 2)] (defScope (meth 18 10)) (cntL (rooms.flatMap fcs)) (fun p => tI p.1) (fun p => decide (p.2 ≠ 2)) (fun p => tI p.1) hF (XI.is (i_dic hF (xv 1 hF)) ?_) (by omega) fun hB q hq => ⟨_, g_name 2 hB, t_one (b_cm (cm_ne (x_dget (key := q.1) hB (k_dic (xv 1 hB)) (xv 2 hB) (cnt_get hq)) x_int)), fun _ => xv 2 hB⟩) ?_))) x_int)) ?_))), .rt _⟩
  · unfold encK
    rw [List.map_map]
    rfl
  · rw [show (fun p : List Int × Int => tI p.1) = tI ∘ (fun p : List Int × Int => p.1) from rfl, ← List.map_map]
    exact flat_rows _
  · congr 1
    exact decide_eq_decide.mpr (by omega)
end K84
/-! part D12 -/
set_option Elab.async false
set_option linter.all false
set_option maxRecDepth 100000
set_option maxHeartbeats 4000000
namespace K84
open PySem PySem.Spec PyProof.Rows L2 Evl FX
variable {W : Wd}
/-- what is known of the class Chain -/
structure ChF (W : Wd) (C : Addr) : Prop where
  gl : W.mg "Chain" = some (.ref C)
  cl : Cls W.K C
  np : NoAttr W.K C "places"
  nd : NoAttr W.K C "degree"
  nt : NoAttr W.K C "terms"
  init : ∃ g fd, Mk W.K C g ∧ FunD W.K "__init__" "Chain.__init__" (defArgs (meth 21 0)) (defBody (meth 21 0)) (defScope (meth 21 0)) [] [] g fd
  len : ∃ g fd, Meth W.K C "__len__" g ∧ FunD W.K "__len__" "Chain.__len__" (defArgs (meth 21 4)) (defBody (meth 21 4)) (defScope (meth 21 4)) [] [] g fd
  abs : ∃ g fd, Meth W.K C "__abs__" g ∧ FunD W.K "__abs__" "Chain.__abs__" (defArgs (meth 21 14)) (defBody (meth 21 14)) (defScope (meth 21 14)) [] [] g fd
  bnd : ∃ g fd, Meth W.K C "boundary" g ∧ FunD W.K "boundary" "Chain.boundary" (defArgs (meth 21 16)) (defBody (meth 21 16)) (defScope (meth 21 16)) [] [] g fd
  odd : ∃ g fd, Meth W.K C "odd_book" g ∧ FunD W.K "odd_book" "Chain.odd_book" (defArgs (meth 21 18)) (defBody (meth 21 18)) (defScope (meth 21 18)) [] [] g fd
abbrev chFs (p z : Nat) (ts : List (List Int × Int)) : List (Str × Dat) := [("places", nD p), ("degree", nD z), ("terms", .sq true (ts.map tmD))]
/-! ### sums of terms by room -/
def sStep (t : List (List Int × Int)) (q : List Int × Int) : List (List Int × Int) := putA t (sortI q.1) ((valA t (sortI q.1)).getD 0 + q.2 * M84.sg q.1)
def sumL (L : List (List Int × Int)) : List (List Int × Int) := L.foldl sStep []
theorem sumL_snoc (L : List (List Int × Int)) (q : List Int × Int) : sumL (L ++ [q]) = sStep (sumL L) q := by
  unfold sumL
  rw [List.foldl_append]
  rfl
/-- what a room's terms sum to -/
def totS (L : List (List Int × Int)) (r : List Int) : Int := ((L.filter fun q => decide (sortI q.1 = r)).map fun q => q.2 * M84.sg q.1).sum
theorem sumL_ok (L : List (List Int × Int)) : (sumL L).length ≤ L.length ∧ (∀ r, (valA (sumL L) r).getD 0 = totS L r) ∧ ((sumL L).map (·.1)).Nodup ∧ (∀ r, r ∈ (sumL L).map (·.1) ↔ ∃ q ∈ L, sortI q.1 = r) := by
  induction L using snoc_ind with
  | h0 => exact ⟨Nat.le_refl _, fun r => rfl, List.nodup_nil, fun r => ⟨fun h => (nomatch h), fun ⟨q, h, _⟩ => (nomatch h)⟩⟩
  | h1 L x ih =>
    obtain ⟨h1, h2, h3, h4⟩ := ih
    rw [sumL_snoc]
    unfold sStep
    refine ⟨?_, fun r => ?_, ?_, fun r => ?_⟩
    · have := putA_len (sumL L) (sortI x.1) ((valA (sumL L) (sortI x.1)).getD 0 + x.2 * M84.sg x.1)
      rw [List.length_append]
      show _ ≤ _ + 1
      omega
    · rw [valA_put]
      unfold totS
      rw [List.filter_append, List.map_append, List.sum_append, List.filter_cons, List.filter_nil]
      by_cases c : r = sortI x.1
      · rw [if_pos c, if_pos (decide_eq_true c.symm), c, h2]
        show _ + _ = _ + (_ + 0)
        rw [Int.add_zero]
        rfl
      · rw [if_neg c, if_neg (by rw [decide_eq_true_iff]; exact fun z => c z.symm), h2]
        show _ = _ + 0
        rw [Int.add_zero]
        rfl
    · rw [putA_keys]
      by_cases m : sortI x.1 ∈ (sumL L).map (·.1)
      · rw [if_pos m]; exact h3
      · rw [if_neg m]
        exact List.nodup_append.mpr ⟨h3, by simp, fun a ha b hb z => m (by rw [List.mem_singleton.mp hb] at z; exact z ▸ ha)⟩
    · rw [putA_keys]
      by_cases m : sortI x.1 ∈ (sumL L).map (·.1)
      · rw [if_pos m, h4]
        constructor
        · rintro ⟨q, hq, e⟩
          exact ⟨q, List.mem_append_left _ hq, e⟩
        · rintro ⟨q, hq, e⟩
          rcases List.mem_append.mp hq with hq | hq
          · exact ⟨q, hq, e⟩
          · rw [List.mem_singleton.mp hq] at e
            exact (h4 r).mp (e ▸ m)
      · rw [if_neg m, List.mem_append, h4]
        constructor
        · rintro (⟨q, hq, e⟩ | h)
          · exact ⟨q, List.mem_append_left _ hq, e⟩
          · exact ⟨x, List.mem_append_right _ (List.mem_singleton.mpr rfl), (List.mem_singleton.mp h).symm⟩
        · rintro ⟨q, hq, e⟩
          rcases List.mem_append.mp hq with hq | hq
          · exact .inl ⟨q, hq, e⟩
          · rw [List.mem_singleton.mp hq] at e
            exact .inr (List.mem_singleton.mpr e.symm)
/-- the terms of a chain -/
def chT (L : List (List Int × Int)) : List (List Int × Int) := ((sortR ((sumL L).map (·.1))).filter fun r => decide (totS L r ≠ 0)).map fun r => (r, totS L r)
/-- a term: places in any order, all different -/
def isTerm (p z : Nat) (q : List Int × Int) : Prop := q.1.length = z ∧ (∀ x ∈ q.1, 0 ≤ x ∧ x < p) ∧ q.1.Nodup
theorem sg_small (r : List Int) : M84.sg r = 1 ∨ M84.sg r = -1 := by
  unfold M84.sg M84.pm
  cases M84.sgb r with
  | true => exact .inr rfl
  | false => exact .inl rfl
def Rchain : List Dat → List (Str × Dat) → Prop := fun ds fs => ∃ (p z : Nat) (L : List (List Int × Int)), ds = [nD p, nD z, .sq false (L.map tmD)] ∧ 1 ≤ p ∧ p ≤ 12 ∧ z ≤ 1000 ∧ L.length ≤ 60000 ∧ (∀ q ∈ L, isTerm p z q) ∧ fs = chFs p z (chT L)
theorem sc_chain : FnScope ["self", "places", "degree", "terms", "sums", "at", "term", "fault", "room"] ["self", "places", "degree", "terms"] (defScope (meth 21 0)) := ⟨rfl, rfl, rfl, by decide +kernel, rfl, by decide +kernel, by decide +kernel⟩
theorem valA_some {α : Type} {kvs : List (List Int × α)} {k : List Int} (h : k ∈ kvs.map (·.1)) : ∃ a, valA kvs k = some a := Option.isSome_iff_exists.mp (valA_mem.mpr h)
theorem ok_chain {C CB : Addr} (T : Bi W) (B : BkF W CB) (Ch : ChF W C) (Cf : Fn W "room_fault" 1 3 Rfault) (Cs : Fn W "order_sign" 1 1 Rsign) : Ct W "Chain" C 2 3 Rchain := by
  obtain ⟨g, fd, hmk, hfd⟩ := Ch.init
  obtain ⟨mc, um, hcr, hcv⟩ := B.mp
  refine ⟨Ch.gl, g, fd, _, hmk, hfd.bindsN (ps := ["self", "places", "degree", "terms"]) (fun _ _ _ _ _ _ us hl => match us, hl with | [_, _, _, _], _ => rfl), rfl, init_mk hfd sc_chain rfl fun l f cdv A outer s0 H E hF ds fs hR _ => ?_⟩
  obtain ⟨p, z, L, rfl, h1, h2, h3, h5, h6, rfl⟩ := hR
  obtain ⟨c1, c2, c3, c4⟩ := sumL_ok L
  have hkl : ∀ r ∈ (sumL L).map (·.1), r.length = z := fun r hr => by
    obtain ⟨q, hq, rfl⟩ := (c4 r).mp hr
    rw [(sortI_perm _).length_eq, (h6 q hq).1]
  refine ⟨_, ss_cons (s_ifN (XB.is (b_not (b_leLe x_int (xv 1 hF) (x_cval hF B.gl hcr hcv))) ?_)) (ss_cons (s_ifN (XB.is (b_cm (cm_lt (xv 2 hF) x_int)) (decide_eq_false (by omega)))) (ss_cons (s_set 4 hF o_dnew)
    (ss_cons (s_forE (l := L) (enc := tmD) [5, 6] (fun j => [.mO l C [], .dat (nD p), .dat (nD z), .dat (.sq false (L.map tmD)), .mD (encK .int (sumL (L.take j))), .no, .no, .no, .no]) hF (i_enum T.enumerate hF (xv 3 hF)) (.same (.same (.same (.same (.same (.same (.same (.same (.same .nil))))))))) ?_)
    (ss_cons (s_fld 0 hF rfl (xv 1 hF) Ch.cl Ch.np rfl (Nat.le_of_ble_eq_true rfl)) (ss_cons (s_fld 0 hF rfl (xv 2 hF) Ch.cl Ch.nd rfl (Nat.le_of_ble_eq_true rfl)) (ss_one (s_fld 0 hF rfl (XD.is (da := .sq true ((chT L).map tmD)) (x_tupL T.tuple hF (q_mL (o_lcf [8] [("room", 8)] (defScope (meth 21 0)) (sortR ((sumL L).map (·.1))) tI (fun r => decide (totS L r ≠ 0)) (fun r => tmD (r, totS L r)) hF
      (i_sq (t := false) hF (XE.pub (XE.is (o_sortK T.sorted hF (k_var 4 hF) ?_) ?_))) ?_ fun hB r hr => ?_))) ?_) Ch.cl Ch.nt rfl (Nat.le_of_ble_eq_true rfl)))))))), rfl⟩
  · rw [decide_eq_true (show (1 : Int) ≤ (p : Nat) by omega), decide_eq_true (show ((p : Nat) : Int) ≤ 12 by omega)]
    rfl
  · intro j q hj
    have hm := List.mem_of_getElem? hj
    obtain ⟨r1, r2, r3⟩ := h6 q hm
    have ix0 : atI [tI q.1, Dat.int q.2] 0 = some (tI q.1) := rfl
    have ix1 : atI [tI q.1, Dat.int q.2] 1 = some (.int q.2) := rfl
    have hs := (sumL_ok (L.take j)).1
    rw [List.length_take] at hs
    refine ⟨_, _, g_tup hF (gs_cons (g_name 5 hF) (gs_cons (g_name 6 hF) gs_nil)), ss_cons (s_set 7 hF (x_call Cf hF (by decide) (xa_cons (xv 1 hF) (xa_cons (xv 2 hF) (xa_cons (x_ix hF (q_of (xv 6 hF)) x_int ix0) xa_nil))) rfl ⟨(p : Nat), (z : Nat), q.1, rfl, by omega, .inl ⟨by omega, r2, r3, rfl⟩⟩))
      (ss_cons (s_ifN (XB.is (b_cm (cm_neS (xv 7 hF) x_str)) (decide_eq_false (fun z => z rfl))))
      (ss_cons (s_set 8 hF (XD.is (x_tupL T.tuple hF (q_mL (o_sorted T.sorted hF (q_of (x_ix hF (q_of (xv 6 hF)) x_int ix0)) (ok_ints (by omega))))) (da := tI (sortI q.1)) ?_))
      (ss_one (s_dput (key := sortI q.1) (d := .int ((valA (sumL (L.take j)) (sortI q.1)).getD 0 + q.2 * M84.sg q.1)) 4 hF rfl (xv 8 hF) (x_add (XD.is (x_dget2 (key := sortI q.1) hF (k_var 4 hF) (xv 8 hF) x_int) ?_)
        (x_mul (x_ix hF (q_of (xv 6 hF)) x_int ix1) (x_call Cs hF (by decide) (xa_cons (x_ix hF (q_of (xv 6 hF)) x_int ix0) xa_nil) rfl ⟨true, q.1, rfl, by omega, rfl⟩) (.inr (by rcases sg_small q.1 with e | e <;> rw [e] <;> exact ⟨by decide, by decide⟩)))) ?_)))), _, .inl rfl, ?_⟩
    · rw [sort_ints]
    · rw [valD_enc]
      cases valA (sumL (L.take j)) (sortI q.1) <;> rfl
    · rw [encK_len]
      omega
    · show Wk [_, _, _, _, .mD (putD _ _ _), _, _, _, _] _
      rw [putD_enc, show L.take (j + 1) = L.take j ++ [q] by rw [List.take_add_one, hj]; rfl, sumL_snoc]
      exact .same (.same (.same (.same (.same (.drop (.drop (.drop (.drop .nil))))))))
  · rw [List.take_length]
    unfold encK
    rw [List.map_map, show ((fun p : List Int × Dat => tI p.1) ∘ fun p : List Int × Int => (p.1, Dat.int p.2)) = tI ∘ (fun p : List Int × Int => p.1) from rfl, ← List.map_map]
    exact ok_rows (by rw [List.length_map]; omega) (rows_ok c3 hkl)
  · rw [List.take_length]
    unfold encK
    rw [List.map_map, show ((fun p : List Int × Dat => tI p.1) ∘ fun p : List Int × Int => (p.1, Dat.int p.2)) = tI ∘ (fun p : List Int × Int => p.1) from rfl, ← List.map_map, sort_rows]
  · unfold sortR
    rw [List.length_mergeSort, List.length_map]
    omega
  · have hr2 : r ∈ (sumL L).map (·.1) := (List.mergeSort_perm _ _).mem_iff.mp hr
    obtain ⟨a, ha⟩ := valA_some hr2
    have ea : a = totS L r := by have := c2 r; rw [ha] at this; exact this
    have hv : valD (encK .int (sumL (L.take L.length))) r = some (.int (totS L r)) := by
      rw [List.take_length, valD_enc, ha, ea]
      rfl
    refine ⟨_, g_name 8 hB, t_one (b_cm (cm_ne (x_dget (key := r) hB (k_var 4 hB) (xv 8 hB) hv) x_int)), fun _ => x_tup (xa_cons (xv 8 hB) (xa_cons (x_dget (key := r) hB (k_var 4 hB) (xv 8 hB) hv) xa_nil))⟩
  · unfold chT
    rw [List.map_map]
    rfl
/-! ### Chain's methods -/
theorem sc_clen : FnScope ["self"] ["self"] (defScope (meth 21 4)) := ⟨rfl, rfl, rfl, by decide +kernel, rfl, by decide +kernel, by decide +kernel⟩
def Rclen (C : Addr) : List Dat → Sl → Prop := fun ds s => ∃ (p z : Nat) (ts : List (List Int × Int)), ds = [.obj C (chFs p z ts)] ∧ s = .dat (nD ts.length)
theorem ok_clen {C : Addr} (T : Bi W) (Ch : ChF W C) : Mt W C "__len__" 1 1 (Rclen C) := by
  obtain ⟨g, fd, hm, hfd⟩ := Ch.len
  refine ⟨g, fd, _, hm, hfd.bindsN (ps := ["self"]) (fun _ _ _ _ _ _ us hl => match us, hl with | [_], _ => rfl), rfl, mt_core hfd sc_clen rfl fun f cdv A outer s0 H E hF ds r hR _ => ?_⟩
  obtain ⟨p, z, ts, rfl, rfl⟩ := hR
  exact ⟨_, ss_one (s_ret (x_lenM T.len hF (q_of (x_fld hF (xv 0 hF) Ch.cl Ch.nt rfl)))), .rt _⟩
theorem sc_cabs : FnScope ["self", "_", "coefficient"] ["self"] (defScope (meth 21 14)) := ⟨rfl, rfl, rfl, by decide +kernel, rfl, by decide +kernel, by decide +kernel⟩
def Rcabs (C : Addr) : List Dat → Sl → Prop := fun ds s => ∃ (p z : Nat) (ts : List (List Int × Int)), ds = [.obj C (chFs p z ts)] ∧ ts.length ≤ 60000 ∧ s = .dat (.int (ts.map fun q => absI q.2).sum)
theorem ok_cabs {C : Addr} (T : Bi W) (Ch : ChF W C) : Mt W C "__abs__" 1 1 (Rcabs C) := by
  obtain ⟨g, fd, hm, hfd⟩ := Ch.abs
  refine ⟨g, fd, _, hm, hfd.bindsN (ps := ["self"]) (fun _ _ _ _ _ _ us hl => match us, hl with | [_], _ => rfl), rfl, mt_core hfd sc_cabs rfl fun f cdv A outer s0 H E hF ds r hR _ => ?_⟩
  obtain ⟨p, z, ts, rfl, hl, rfl⟩ := hR
  exact ⟨_, ss_one (s_ret (x_sum T.sum hF (XQ.is (ds' := (ts.map fun q => absI q.2).map .int) (q_mL (o_lcm [1, 2] [("_", 1), ("coefficient", 2)] (defScope (meth 21 14)) ts tmD (fun q => .int (absI q.2)) hF (i_sq hF (x_fld hF (xv 0 hF) Ch.cl Ch.nt rfl)) (by omega)
    fun hB q hq => ⟨_, g_tup hB (gs_cons (g_name 1 hB) (gs_cons (g_name 2 hB) gs_nil)), x_abs T.abs hB (xv 2 hB)⟩)) (by rw [List.map_map]; rfl)))), .rt _⟩
theorem sc_cbnd : FnScope ["self", "terms", "room", "coefficient", "k", "face"] ["self"] (defScope (meth 21 16)) := ⟨rfl, rfl, rfl, by decide +kernel, rfl, by decide +kernel, by decide +kernel⟩
/-- the faces of a term, each with its sign -/
def bndQ (q : List Int × Int) : List (List Int × Int) := (fcs q.1).mapIdx fun k f => (f, q.2 * (1 - 2 * ((k : Int) % 2)))
def Rcbnd (C : Addr) : List Dat → Sl → Prop := fun ds s => ∃ (p z : Nat) (ts : List (List Int × Int)), ds = [.obj C (chFs p (z + 1) ts)] ∧ 1 ≤ p ∧ p ≤ 12 ∧ z ≤ 11 ∧ ts.length ≤ 4500 ∧ (∀ q ∈ ts, isTerm p (z + 1) q) ∧ s = .dat (.obj C (chFs p z (chT (ts.flatMap bndQ))))
theorem bndQ_len (q : List Int × Int) : (bndQ q).length = q.1.length := by
  unfold bndQ fcs
  rw [List.length_mapIdx, List.length_map, List.length_range]
theorem bflat_len {ts : List (List Int × Int)} {n : Nat} (h : ∀ q ∈ ts, q.1.length = n) : (ts.flatMap bndQ).length = n * ts.length := by
  induction ts with
  | nil => rfl
  | cons q ts ih =>
    rw [List.flatMap_cons, List.length_append, List.length_cons, bndQ_len, h q List.mem_cons_self, ih fun q hq => h q (List.mem_cons_of_mem _ hq), Nat.mul_succ]
    omega
theorem bndQ_get {q : List Int × Int} {k : Nat} {f : List Int} (h : (fcs q.1)[k]? = some f) : (bndQ q)[k]? = some (f, q.2 * (1 - 2 * ((k : Int) % 2))) := by
  unfold bndQ
  rw [List.getElem?_mapIdx, h]
  rfl
theorem ok_cbnd {C : Addr} (T : Bi W) (Ch : ChF W C) (Cc : Ct W "Chain" C 2 3 Rchain) (Cf : Fn W "faces" 1 1 Rfaces) : Mt W C "boundary" 4 1 (Rcbnd C) := by
  obtain ⟨g, fd, hm, hfd⟩ := Ch.bnd
  refine ⟨g, fd, _, hm, hfd.bindsN (ps := ["self"]) (fun _ _ _ _ _ _ us hl => match us, hl with | [_], _ => rfl), rfl, mt_core hfd sc_cbnd rfl fun f cdv A outer s0 H E hF ds r hR _ => ?_⟩
  obtain ⟨p, z, ts, rfl, h1, h2, h3, h4, h5, rfl⟩ := hR
  have hfl : ∀ j, ((ts.take j).flatMap bndQ).length ≤ 54000 := fun j => by
    rw [bflat_len (n := z + 1) fun q hq => (h5 q (List.mem_of_mem_take hq)).1, List.length_take]
    have : (z + 1) * min j ts.length ≤ 12 * 4500 := Nat.mul_le_mul (by omega) (by omega)
    omega
  refine ⟨_, ss_cons (s_ifN (XB.is (b_cm (cm_eq (x_fld hF (xv 0 hF) Ch.cl Ch.nd rfl) x_int)) (decide_eq_false (by omega)))) (ss_cons (s_set 1 hF (o_lst xa_nil))
    (ss_cons (s_forM (l := ts) (enc := tmD) [2, 3] (fun j => [.dat (.obj C (chFs p (z + 1) ts)), .mL (((ts.take j).flatMap bndQ).map tmD), .no, .no, .no, .no]) hF (i_sq hF (x_fld hF (xv 0 hF) Ch.cl Ch.nt rfl)) (.same (.same (.same (.same (.same (.same .nil)))))) ?_)
    (ss_pub 1 rfl (ss_one (s_ret (x_make Cc hF (by decide) (xa_cons (x_fld hF (xv 0 hF) Ch.cl Ch.np rfl) (xa_cons (XD.is (da := nD z) (x_sub (x_fld hF (xv 0 hF) Ch.cl Ch.nd rfl) x_int) (by congr 1; omega)) (xa_cons (xv 1 hF) xa_nil))) rfl ⟨p, z, ts.flatMap bndQ, by rw [List.take_length], h1, h2, by omega, ?_, ?_, rfl⟩)))))), .rt _⟩
  · intro j q hj
    have hm := List.mem_of_getElem? hj
    obtain ⟨r1, r2, r3⟩ := h5 q hm
    have hjl := (List.getElem?_eq_some_iff.mp hj).1
    have hfn : (fcs q.1).length = z + 1 := by unfold fcs; rw [List.length_map, List.length_range, r1]
    refine ⟨_, _, g_tup hF (gs_cons (g_name 2 hF) (gs_cons (g_name 3 hF) gs_nil)), ss_one (s_forE (l := fcs q.1) (enc := tI) [4, 5] (fun u => [.dat (.obj C (chFs p (z + 1) ts)), .mL (((ts.take j).flatMap bndQ ++ (bndQ q).take u).map tmD), .dat (tI q.1), .dat (.int q.2), .no, .no]) hF
      (i_enum (t := false) T.enumerate hF (XE.pub (x_call Cf hF (by decide) (xa_cons (xv 2 hF) xa_nil) rfl ⟨q.1, rfl, by omega, rfl⟩))) ?_ ?_), _, .inl rfl, ?_⟩
    · rw [List.take_zero, List.append_nil]
      exact .same (.same (.same (.same (.drop (.drop .nil)))))
    · intro u face hu
      have hg := bndQ_get (q := q) hu
      refine ⟨_, _, g_tup hF (gs_cons (g_name 4 hF) (gs_cons (g_name 5 hF) gs_nil)), ss_one (s_append (d := tmD (face, q.2 * (1 - 2 * ((u : Int) % 2)))) 1 hF rfl (x_tup (xa_cons (xv 5 hF) (xa_cons (x_mul (xv 3 hF) (x_sub x_int (x_mul x_int (x_mod (xv 4 hF) x_int (by decide)) (.inl ⟨by decide, by decide⟩))) (.inr (by omega))) xa_nil))) ?_), _, .inl rfl, ?_⟩
      · have := hfl j
        have h8 := bndQ_len q
        rw [List.length_map, List.length_append, List.length_take]
        omega
      · show Wk [_, .mL (_ ++ [tmD _]), _, _, _, _] _
        rw [show (bndQ q).take (u + 1) = (bndQ q).take u ++ [(face, q.2 * (1 - 2 * ((u : Int) % 2)))] by rw [List.take_add_one, hg]; rfl, ← List.append_assoc, List.map_append (l₂ := [_])]
        exact .same (.same (.same (.same (.drop (.drop .nil)))))
    · rw [show (bndQ q).take (fcs q.1).length = bndQ q from List.take_of_length_le (by rw [bndQ_len, hfn, r1]; exact Nat.le_refl _), ← take_flat hj]
      exact .same (.same (.drop (.drop (.drop (.drop .nil)))))
  · have := hfl ts.length
    rw [List.take_length] at this
    omega
  · intro q hq
    obtain ⟨t, ht, hq⟩ := List.mem_flatMap.mp hq
    obtain ⟨r1, r2, r3⟩ := h5 t ht
    unfold bndQ at hq
    obtain ⟨k, hk, rfl⟩ := List.mem_mapIdx.mp hq
    have hm := List.getElem_mem hk
    have hl := fcs_mem hm
    unfold fcs at hm
    obtain ⟨i, hi, e⟩ := List.mem_map.mp hm
    refine ⟨by show ((fcs t.1)[k]).length = z; rw [hl, r1]; rfl, fun x hx => r2 x ?_, ?_⟩
    · have hx' : x ∈ (fcs t.1)[k] := hx
      unfold fcs at hx'
      rw [← e] at hx'
      exact (List.eraseIdx_sublist _ _).subset hx'
    · show ((fcs t.1)[k]).Nodup
      unfold fcs
      rw [← e]
      exact r3.sublist (List.eraseIdx_sublist _ _)
theorem sc_codd : FnScope ["self", "room", "coefficient"] ["self"] (defScope (meth 21 18)) := ⟨rfl, rfl, rfl, by decide +kernel, rfl, by decide +kernel, by decide +kernel⟩
def Rcodd (C CB : Addr) : List Dat → Sl → Prop := fun ds s => ∃ (p z : Nat) (ts : List (List Int × Int)), ds = [.obj C (chFs p z ts)] ∧ 1 ≤ p ∧ p ≤ 12 ∧ 1 ≤ z ∧ z ≤ p ∧ ts.length ≤ 5000 ∧ (∀ q ∈ ts, isRoom p z q.1) ∧ (ts.map (·.1)).Nodup ∧ s = .dat (.obj CB (bookFs p z (sortR ((ts.filter fun q => decide (q.2 % 2 = 1)).map (·.1)))))
theorem ok_codd {C CB : Addr} (T : Bi W) (Ch : ChF W C) (Cb : Ct W "Book" CB 2 3 Rbook) : Mt W C "odd_book" 4 1 (Rcodd C CB) := by
  obtain ⟨g, fd, hm, hfd⟩ := Ch.odd
  refine ⟨g, fd, _, hm, hfd.bindsN (ps := ["self"]) (fun _ _ _ _ _ _ us hl => match us, hl with | [_], _ => rfl), rfl, mt_core hfd sc_codd rfl fun f cdv A outer s0 H E hF ds r hR _ => ?_⟩
  obtain ⟨p, z, ts, rfl, h1, h2, h3, h4, h5, h6, h7, rfl⟩ := hR
  have hle := List.length_filter_le (fun q : List Int × Int => decide (q.2 % 2 = 1)) ts
  refine ⟨_, ss_one (s_ret (x_make Cb hF (by decide) (xa_cons (x_fld hF (xv 0 hF) Ch.cl Ch.np rfl) (xa_cons (x_fld hF (xv 0 hF) Ch.cl Ch.nd rfl) (xa_cons (XD.is (da := rmsD ((ts.filter fun q => decide (q.2 % 2 = 1)).map (·.1))) (XE.pub (o_lcf [1, 2] [("room", 1), ("coefficient", 2)] (defScope (meth 21 18)) ts tmD (fun q => decide (q.2 % 2 = 1)) (fun q => tI q.1) hF (i_sq hF (x_fld hF (xv 0 hF) Ch.cl Ch.nt rfl)) (by omega)
    fun hB q hq => ⟨_, g_tup hB (gs_cons (g_name 1 hB) (gs_cons (g_name 2 hB) gs_nil)), t_one (b_cm (cm_eq (x_mod (xv 2 hB) x_int (by decide)) x_int)), fun _ => xv 1 hB⟩)) ?_) xa_nil))) rfl ⟨p, z, _, rfl, h1, h2, h3, h4, ?_, ?_, ?_, rfl⟩)), .rt _⟩
  · show Dat.sq false _ = Dat.sq false (List.map tI (List.map _ _))
    rw [List.map_map]
    rfl
  · rw [List.length_map]
    omega
  · intro r hr
    obtain ⟨q, hq, rfl⟩ := List.mem_map.mp hr
    exact h6 q (List.mem_filter.mp hq).1
  · exact h7.sublist (List.filter_sublist.map _)
theorem sc_signed : FnScope ["chain"] ["chain"] (defScope (top 37)) := ⟨rfl, rfl, rfl, by decide +kernel, rfl, by decide +kernel, by decide +kernel⟩
/-- the chains that are signed: all coefficients of size 1, no boundary -/
def Rsigned (C : Addr) : List Dat → Sl → Prop := fun ds s => ∃ (p z : Nat) (ts : List (List Int × Int)), ds = [.obj C (chFs p (z + 1) ts)] ∧ 1 ≤ p ∧ p ≤ 12 ∧ z ≤ 11 ∧ ts.length ≤ 4500 ∧ (∀ q ∈ ts, isTerm p (z + 1) q) ∧ (∀ q ∈ ts, absI q.2 = 1) ∧ chT (ts.flatMap bndQ) = [] ∧ s = .dat (.bl true)
theorem sum_ones {α : Type} {f : α → Int} : ∀ {l : List α}, (∀ x ∈ l, f x = 1) → (l.map f).sum = l.length
  | [], _ => rfl
  | x :: l, h => by
    rw [List.map_cons, List.sum_cons, h x List.mem_cons_self, sum_ones fun y hy => h y (List.mem_cons_of_mem _ hy), List.length_cons]
    omega
theorem ok_signed {C : Addr} (T : Bi W) (Ch : ChF W C) (C1 : Mt W C "__len__" 1 1 (Rclen C)) (C2 : Mt W C "__abs__" 1 1 (Rcabs C)) (C3 : Mt W C "boundary" 4 1 (Rcbnd C)) (D : HasDef W "is_signed" 37) : Fn W "is_signed" 5 1 (Rsigned C) := by
  refine fn_mk D sc_signed rfl (fun _ _ _ _ _ _ us hl => match us, hl with | [_], _ => rfl) fun f cdv A outer s0 H E hF ds r hR _ => ?_
  obtain ⟨p, z, ts, rfl, h1, h2, h3, h4, h5, h6, h7, rfl⟩ := hR
  refine ⟨_, ss_one (s_ret (XD.is (x_and (x_cm (cm_ge (x_fld hF (xv 0 hF) Ch.cl Ch.nd rfl) x_int)) fun _ => x_and (x_cm (cm_eq (x_absOwn C2 T.abs hF (by decide) (xv 0 hF) ⟨p, z + 1, ts, rfl, by omega, rfl⟩) (x_lenOwn C1 T.len hF (by decide) (xv 0 hF) ⟨p, z + 1, ts, rfl, rfl⟩ (by omega)))) fun _ =>
    x_one (x_cm (cm_eq (x_lenOwn C1 T.len hF (by decide) (x_meth0 C3 hF (by decide) (xv 0 hF) Ch.cl rfl ⟨p, z, ts, rfl, h1, h2, h3, h4, h5, rfl⟩) ⟨p, z, chT (ts.flatMap bndQ), rfl, rfl⟩ (by rw [h7]; decide)) x_int))) ?_)), .rt _⟩
  rw [sum_ones h6, h7, decide_eq_true (show ((z + 1 : Nat) : Int) ≥ 1 by omega), decide_eq_true rfl]
  rfl
end K84
/-! part MathC -/
set_option Elab.async false
set_option linter.all false
set_option maxRecDepth 100000
set_option maxHeartbeats 1000000
namespace K84
open PySem PySem.Spec PyProof.Rows L2 Evl FX M84
/-! ### ranks from orders -/
def rho (os : List (List Int)) (d v : Nat) (k : Nat) (p : Int) : Nat := ((fulls os d v).getD k []).idxOf p
def mnF (os : List (List Int)) (d v : Nat) (k : Nat) (R : List Int) : Int := fstP ((fulls os d v).getD k []) R
def lstF (os : List (List Int)) (k : Nat) : Int := (os.getD k []).getLastD 0
section
variable {os : List (List Int)} {d v : Nat}
theorem row_at (ho : Ords os d v) {k : Nat} (hk : k < d) : ∃ o, os[k]? = some o ∧ o ∈ os ∧ (fulls os d v).getD k [] = fullRow d v k o ∧ (fulls os d v)[k]? = some (fullRow d v k o) := by
  have hl : k < os.length := by rw [ho.len]; exact hk
  have h := List.getElem?_eq_getElem hl
  refine ⟨os[k], h, List.getElem_mem hl, ?_, fulls_get h⟩
  rw [List.getD_eq_getElem?_getD, fulls_get h]
  rfl
theorem row_mem (ho : Ords os d v) {k : Nat} (hk : k < d) : (fulls os d v).getD k [] ∈ fulls os d v := by
  obtain ⟨o, _, _, e, g⟩ := row_at ho hk
  rw [e]
  exact List.mem_of_getElem? g
theorem pl_irg {p : Int} : Pl d v p ↔ p ∈ irg 0 (v + d) := by
  rw [mem_irg]
  unfold Pl
  omega
theorem idx_inj {l : List Int} {p q : Int} (hp : p ∈ l) (h : l.idxOf p = l.idxOf q) (hq : q ∈ l) : p = q := by
  have h1 := List.idxOf_lt_length_iff.mpr hp
  have h2 := List.idxOf_lt_length_iff.mpr hq
  have e1 : l[l.idxOf p] = p := List.getElem_idxOf h1
  have e2 : l[l.idxOf q] = q := List.getElem_idxOf h2
  rw [← e1, ← e2]
  congr 1
theorem idx_app_l {l m : List Int} {p : Int} (h : p ∈ l) : (l ++ m).idxOf p = l.idxOf p := by
  rw [List.idxOf_append, if_pos h]
theorem idx_app_r {l m : List Int} {p : Int} (h : p ∉ l) : (l ++ m).idxOf p = m.idxOf p + l.length := by
  rw [List.idxOf_append, if_neg h]
theorem last_idx {l : List Int} (hn : l.Nodup) (hne : l ≠ []) {p : Int} (hp : p ∈ l) : l.idxOf p ≤ l.idxOf (l.getLastD 0) ∧ l.getLastD 0 ∈ l := by
  have e : l.getLastD 0 = l.getLast hne := by rw [List.getLastD_eq_getLast?, List.getLast?_eq_getLast hne]; rfl
  have hm : l.getLastD 0 ∈ l := by rw [e]; exact List.getLast_mem hne
  refine ⟨?_, hm⟩
  have h1 := List.idxOf_lt_length_iff.mpr hp
  have hlen := List.length_pos_of_mem hp
  have h2 : l.idxOf (l.getLastD 0) = l.length - 1 := by
    rw [e, List.getLast_eq_getElem]
    exact List.Nodup.idxOf_getElem hn _ (by omega)
  omega
theorem rk (ho : Ords os d v) : Rk d v (rho os d v) (mnF os d v) (lstF os) := by
  have nd : ∀ {k}, k < d → ((fulls os d v).getD k []).Nodup := fun {k} hk => (full_perm ho (row_mem ho hk)).nodup_iff.mpr (irg_nodup _ _)
  have mem : ∀ {k p}, k < d → (Pl d v p ↔ p ∈ (fulls os d v).getD k []) := fun {k p} hk => pl_irg.trans (full_perm ho (row_mem ho hk)).mem_iff.symm
  have omem : ∀ {o}, o ∈ os → ∀ x, x ∈ o ↔ 0 ≤ x ∧ x < v := fun {o} h x => ((ho.ord o h).mem_iff.trans mem_irg).trans (by omega)
  have ond : ∀ {o}, o ∈ os → o.Nodup := fun {o} h => (ho.ord o h).nodup_iff.mpr (irg_nodup _ _)
  have rt : ∀ {k o}, o ∈ os → (fulls os d v).getD k [] = fullRow d v k o → ∀ t : Int, 0 ≤ t → t < v → rho os d v k t = o.idxOf t + 1 := fun {k o} hm e t h0 h1 => by
    unfold rho
    rw [e]
    unfold fullRow
    rw [List.append_assoc, idx_app_r (l := [_]) (by rw [List.mem_singleton]; omega), idx_app_l ((omem hm t).mpr ⟨h0, h1⟩)]
    rfl
  refine ⟨ho.v1, fun k hk p q hp hq h => idx_inj ((mem hk).mp hp) h ((mem hk).mp hq), fun k hk => ?_, fun k hk j hj hjk t h0 h1 => ?_, fun k hk => ?_, fun k hk t h0 h1 => ?_, fun k hk R hne hR => ?_⟩
  · obtain ⟨o, _, hm, e, _⟩ := row_at ho hk
    unfold rho
    rw [e]
    unfold fullRow
    rw [List.append_assoc, List.singleton_append]
    exact List.idxOf_cons_self
  · obtain ⟨o, _, hm, e, _⟩ := row_at ho hk
    rw [rt hm e t h0 h1]
    have h2 := List.idxOf_lt_length_iff.mpr ((omem hm t).mpr ⟨h0, h1⟩)
    unfold rho
    rw [e]
    unfold fullRow
    rw [idx_app_r (l := [_] ++ o)]
    · rw [List.length_append]
      show _ < _ + (1 + _)
      omega
    · rw [List.mem_append, List.mem_singleton]
      rintro (z | z)
      · omega
      · have := (omem hm _).mp z
        omega
  · obtain ⟨o, h1, hm, e, _⟩ := row_at ho hk
    have hne : o ≠ [] := fun z => by
      have h5 := ho.olen hm
      rw [z] at h5
      have h6 : 0 = v := h5
      have := ho.v1
      omega
    obtain ⟨p, hp⟩ := List.exists_mem_of_ne_nil _ hne
    have := (last_idx (ond hm) hne hp).2
    have e2 : lstF os k = o.getLastD 0 := by unfold lstF; rw [List.getD_eq_getElem?_getD, h1]; rfl
    rw [e2]
    exact (omem hm _).mp this
  · obtain ⟨o, h2, hm, e, _⟩ := row_at ho hk
    have hne : o ≠ [] := fun z => by
      have h5 := ho.olen hm
      rw [z] at h5
      have h6 : 0 = v := h5
      have := ho.v1
      omega
    have hp := (omem hm t).mpr ⟨h0, h1⟩
    obtain ⟨l1, l2⟩ := last_idx (ond hm) hne hp
    have e2 : lstF os k = o.getLastD 0 := by unfold lstF; rw [List.getD_eq_getElem?_getD, h2]; rfl
    obtain ⟨a, b⟩ := (omem hm _).mp l2
    rw [rt hm e t h0 h1, e2, rt hm e _ a b]
    omega
  · obtain ⟨p, hp⟩ := List.exists_mem_of_ne_nil _ hne
    have hex : ∃ p ∈ (fulls os d v).getD k [], p ∈ R := ⟨p, (mem hk).mp (hR p hp), hp⟩
    exact ⟨(fstP_mem hex).2, fun q hq => fst_least hex q hq ((mem hk).mp (hR q hq))⟩
theorem lr_least (os : List (List Int)) (d v : Nat) (ho : Ords os d v) (R : List Int) : lr d (mnF os d v) R = leastR (fulls os d v) R := by
  have hl : (fulls os d v).length = d := by rw [fulls_len, ho.len]
  apply List.ext_getElem?
  intro k
  by_cases hk : k < d
  · rw [lr_get hk]
    unfold leastR
    rw [List.getElem?_map, List.getElem?_eq_getElem (by omega)]
    unfold mnF
    rw [List.getD_eq_getElem?_getD, List.getElem?_eq_getElem (by omega)]
    rfl
  · rw [List.getElem?_eq_none (by rw [lr_len]; omega), List.getElem?_eq_none (by unfold leastR; rw [List.length_map]; omega)]
/-! ### the rooms -/
theorem asc_sub : ∀ {l r : List Int}, l.Pairwise (· < ·) → r.Pairwise (· < ·) → (∀ x ∈ r, x ∈ l) → r.Sublist l
  | l, [], _, _, _ => List.nil_sublist l
  | [], x :: r, _, _, h => by have := h x List.mem_cons_self; cases this
  | y :: l, x :: r, hl, hr, h => by
    obtain ⟨l1, l2⟩ := List.pairwise_cons.mp hl
    obtain ⟨r1, r2⟩ := List.pairwise_cons.mp hr
    rcases List.mem_cons.mp (h x List.mem_cons_self) with e | hx
    · subst e
      exact (asc_sub l2 r2 fun z hz => (List.mem_cons.mp (h z (List.mem_cons_of_mem _ hz))).resolve_left fun e => by have := r1 z hz; omega).cons₂ _
    · have hyx := l1 x hx
      exact (asc_sub l2 hr fun z hz => (List.mem_cons.mp (h z hz)).resolve_left fun e => by
        rcases List.mem_cons.mp hz with e2 | hz
        · omega
        · have := r1 z hz; omega).cons _
theorem sub_subs : ∀ {s : Nat} {l r : List Int}, r.Sublist l → r.length = s → r ∈ subs l s
  | 0, l, r, _, h => by
    rw [List.length_eq_zero_iff.mp h, subs]
    exact List.mem_singleton.mpr rfl
  | s + 1, l, r, hs, h => by
    cases r with
    | nil => simp at h
    | cons x r =>
      have hr : r.length = s := by simpa using h
      -- where x stands
      have key : ∀ {l : List Int}, (x :: r).Sublist l → ∃ k, k < l.length ∧ l.getD k 0 = x ∧ r.Sublist (l.drop (k + 1)) := fun {l} => by
        induction l with
        | nil => intro z; cases z
        | cons y l ih =>
          intro z
          cases z with
          | cons _ z =>
            obtain ⟨k, h1, h2, h3⟩ := ih z
            exact ⟨k + 1, by simpa using h1, by simpa using h2, by simpa using h3⟩
          | cons_cons _ z => exact ⟨0, by simp, rfl, by simpa using z⟩
      obtain ⟨k, h1, h2, h3⟩ := key hs
      rw [subs]
      have := h3.length_le
      rw [List.length_drop] at this
      exact List.mem_flatMap.mpr ⟨k, List.mem_range.mpr (by omega), List.mem_map.mpr ⟨r, sub_subs h3 hr, by rw [h2]⟩⟩
theorem subs_nodup : ∀ {s : Nat} {l : List Int}, l.Nodup → (subs l s).Nodup
  | 0, l, _ => by rw [subs]; simp
  | s + 1, l, h => by
    rw [subs]
    refine List.pairwise_flatMap.mpr ⟨fun k hk => ?_, ?_⟩
    · exact List.pairwise_map.mpr ((subs_nodup (h.sublist (List.drop_sublist _ _))).imp fun hne e => hne (List.cons.inj e).2)
    · refine (List.pairwise_lt_range (n := l.length - s)).imp_of_mem fun {i j} hi hj hij x hx y hy e => ?_
      obtain ⟨a, _, rfl⟩ := List.mem_map.mp hx
      obtain ⟨b, _, rfl⟩ := List.mem_map.mp hy
      have e1 := (List.cons.inj e).1
      have hi' := List.mem_range.mp hi
      have hj' := List.mem_range.mp hj
      rw [List.getD_eq_getElem?_getD, List.getElem?_eq_getElem (by omega), List.getD_eq_getElem?_getD, List.getElem?_eq_getElem (by omega)] at e1
      exact List.pairwise_iff_getElem.mp h i j (by omega) (by omega) hij e1
/-- an unbeaten room -/
def isUn (os : List (List Int)) (d v : Nat) (R : List Int) : Prop := R.Pairwise (· < ·) ∧ AllPl d v R ∧ R.length = d ∧ Unb d v (rho os d v) R
theorem abv_iff (ho : Ords os d v) {R : List Int} (hR : AllPl d v R) (hne : R ≠ []) : (abvAll (fulls os d v) R).length = 0 ↔ Unb d v (rho os d v) R := by
  have hl : (fulls os d v).length = d := by rw [fulls_len, ho.len]
  have h1 := ho.d1
  have hfn : fulls os d v ≠ [] := List.ne_nil_of_length_pos (by omega)
  have hp : ∀ r ∈ fulls os d v, r.Perm (irg 0 (v + d)) := fun r hr => full_perm ho hr
  rw [← none_beats hfn hp, List.length_eq_zero_iff, List.filter_eq_nil_iff]
  have bt : ∀ p, beats (fulls os d v) R p = true ↔ ∀ k, k < d → rho os d v k (mnF os d v k R) < rho os d v k p := fun p => by
    unfold beats
    rw [List.all_eq_true]
    constructor
    · intro h k hk
      exact of_decide_eq_true (h _ (row_mem ho hk))
    · intro h r hr
      obtain ⟨k, hk, rfl⟩ := List.mem_iff_getElem.mp hr
      have := h k (by omega)
      have e : (fulls os d v).getD k [] = (fulls os d v)[k] := by rw [List.getD_eq_getElem?_getD, List.getElem?_eq_getElem hk]; rfl
      unfold rho mnF at this
      rw [e] at this
      exact decide_eq_true this
  constructor
  · intro h p hpl
    have := h p (pl_irg.mp hpl)
    rw [bt] at this
    obtain ⟨k, hk⟩ := Classical.not_forall.mp this
    obtain ⟨hk1, hk2⟩ := Classical.not_imp.mp hk
    refine ⟨k, hk1, fun q hq => Nat.le_trans (Nat.le_of_not_lt hk2) (((rk ho).mnS k hk1 R hne hR).2 q hq)⟩
  · intro h p hpm hb
    obtain ⟨k, hk, hq⟩ := h p (pl_irg.mpr hpm)
    have := (bt p).mp hb k hk
    have := hq _ ((rk ho).mnS k hk R hne hR).1
    omega
theorem mem_ub (ho : Ords os d v) {R : List Int} : R ∈ ubR os d v ↔ isUn os d v R := by
  unfold ubR
  rw [List.mem_filter, decide_eq_true_iff]
  have h1 := ho.d1
  constructor
  · rintro ⟨hs, ha⟩
    have hl := subs_mem hs
    have hsub := subs_sub hs
    have hR : AllPl d v R := fun p hp => pl_irg.mpr (hsub.subset hp)
    exact ⟨(irg_asc 0 (v + d)).sublist hsub, hR, hl, (abv_iff ho hR (by intro z; rw [z] at hl; simp at hl; omega)).mp ha⟩
  · rintro ⟨ha, hR, hl, hU⟩
    exact ⟨sub_subs (asc_sub (irg_asc 0 (v + d)) ha fun x hx => pl_irg.mp (hR x hx)) hl, (abv_iff ho hR (by intro z; rw [z] at hl; simp at hl; omega)).mpr hU⟩
theorem ub_nodup (os : List (List Int)) (d v : Nat) : (ubR os d v).Nodup := (subs_nodup (irg_nodup _ _)).filter _
theorem own_not (ho : Ords os d v) : irg v d ∉ ubR os d v := fun h => (rk ho).own_beaten (fun k hk => mem_irg.mpr (by omega)) ((mem_ub ho).mp h).2.2.2
/-- the unbeaten rooms and the own places -/
def roomsU (os : List (List Int)) (d v : Nat) : List (List Int) := ubR os d v ++ [irg v d]
theorem roomsU_nodup (ho : Ords os d v) : (roomsU os d v).Nodup := List.nodup_append.mpr ⟨ub_nodup os d v, by simp, fun a ha b hb z => own_not ho (by rw [List.mem_singleton.mp hb] at z; exact z ▸ ha)⟩
theorem roomsU_ok (ho : Ords os d v) {R : List Int} (h : R ∈ roomsU os d v) : R.Pairwise (· < ·) ∧ AllPl d v R ∧ R.length = d := by
  rcases List.mem_append.mp h with h | h
  · obtain ⟨a, b, c, _⟩ := (mem_ub ho).mp h
    exact ⟨a, b, c⟩
  · rw [List.mem_singleton.mp h]
    exact ⟨irg_asc _ _, fun p hp => by have := mem_irg.mp hp; unfold Pl; omega, irg_len _ _⟩
theorem least_perm (ho : Ords os d v) {R : List Int} (h : R ∈ ubR os d v) : R.Perm (leastR (fulls os d v) R) := by
  obtain ⟨a, b, c, e⟩ := (mem_ub ho).mp h
  rw [← lr_least os d v ho]
  exact (rk ho).perm b (asc_nodup' a) c e
where asc_nodup' {l : List Int} (h : l.Pairwise (· < ·)) : l.Nodup := h.imp fun h => Int.ne_of_lt h
end
end K84
/-! part MathD -/
set_option Elab.async false
set_option linter.all false
set_option maxRecDepth 100000
set_option maxHeartbeats 1000000
namespace K84
open PySem PySem.Spec PyProof.Rows L2 Evl FX M84
/-! ### rooms that share a face -/
theorem filt_erase {l : List Int} (hn : l.Nodup) {a : Nat} {x : Int} (h : l[a]? = some x) : l.filter (fun q => decide (q ≠ x)) = l.eraseIdx a := by
  induction l generalizing a with
  | nil => simp at h
  | cons y l ih =>
    obtain ⟨h1, h2⟩ := List.nodup_cons.mp hn
    cases a with
    | zero =>
      have e : y = x := Option.some.inj (by simpa using h)
      subst e
      rw [List.filter_cons, if_neg (by simp), List.eraseIdx_cons_zero]
      exact List.filter_eq_self.mpr fun q hq => decide_eq_true fun z => h1 (z ▸ hq)
    | succ a =>
      have h' : l[a]? = some x := by simpa using h
      have hne : y ≠ x := fun z => h1 (z ▸ List.mem_of_getElem? h')
      rw [List.filter_cons, if_pos (decide_eq_true hne), List.eraseIdx_cons_succ, ih h2 h']
/-- F with w -/
def ins (F : List Int) (w : Int) : List Int := sortI (F ++ [w])
theorem ins_mem {F : List Int} {w q : Int} : q ∈ ins F w ↔ q ∈ w :: F := by
  unfold ins
  rw [(sortI_perm _).mem_iff, List.mem_append, List.mem_singleton, List.mem_cons]
  exact Or.comm
theorem ins_perm (F : List Int) (w : Int) : (ins F w).Perm (w :: F) := (sortI_perm _).trans (List.perm_append_singleton w F)
theorem ins_asc {F : List Int} {w : Int} (hF : F.Nodup) (hw : w ∉ F) : (ins F w).Pairwise (· < ·) := sortI_asc ((List.perm_append_singleton w F).nodup_iff.mpr (List.nodup_cons.mpr ⟨hw, hF⟩))
/-- an ascending room is its face and the place that left -/
theorem ins_erase {R : List Int} (hR : R.Pairwise (· < ·)) {a : Nat} {x : Int} (h : R[a]? = some x) : ins (R.eraseIdx a) x = R := by
  unfold ins
  exact sortI_unique ((List.perm_append_singleton _ _).trans (erase_perm h).symm) (hR.imp fun h => Int.le_of_lt h)
theorem asc_eq {l m : List Int} (hl : l.Pairwise (· < ·)) (hm : m.Pairwise (· < ·)) (h : ∀ x, x ∈ l ↔ x ∈ m) : l = m := by
  have hp : l.Perm m := (List.perm_ext_iff_of_nodup (asc_nodup hl) (asc_nodup hm)).mpr h
  exact List.Perm.eq_of_pairwise (le := (· < ·)) (fun a b _ _ h1 h2 => absurd h1 (by omega)) hl hm hp

/-- last of l with P -/
def lastIn (l : List Int) (P : Int → Bool) : Int := (l.filter P).getLastD 0
theorem lastIn_ok {P : Int → Bool} : ∀ {l : List Int}, l.Nodup → (∃ w ∈ l, P w = true) → lastIn l P ∈ l ∧ P (lastIn l P) = true ∧ ∀ w ∈ l, P w = true → l.idxOf w ≤ l.idxOf (lastIn l P) := by
  intro l hn ⟨w0, hw0, hp0⟩
  have hm : w0 ∈ l.filter P := List.mem_filter.mpr ⟨hw0, hp0⟩
  have hne : l.filter P ≠ [] := List.ne_nil_of_mem hm
  have e : lastIn l P = (l.filter P).getLast hne := by unfold lastIn; rw [List.getLastD_eq_getLast?, List.getLast?_eq_getLast hne]; rfl
  have hl : lastIn l P ∈ l.filter P := by rw [e]; exact List.getLast_mem hne
  refine ⟨(List.mem_filter.mp hl).1, (List.mem_filter.mp hl).2, ?_⟩
  clear hm w0 hw0 hp0 hl e
  induction l with
  | nil => exact absurd rfl hne
  | cons x l ih =>
    intro w hw hp
    obtain ⟨h1, h2⟩ := List.nodup_cons.mp hn
    by_cases c : l.filter P = []
    · have hwx : w = x := (List.mem_cons.mp hw).resolve_right fun z => by
        have : w ∈ l.filter P := List.mem_filter.mpr ⟨z, hp⟩
        rw [c] at this
        cases this
      rw [hwx, List.idxOf_cons_self]
      exact Nat.zero_le _
    · have hlast : lastIn (x :: l) P = lastIn l P := by
        unfold lastIn
        rw [List.filter_cons]
        split
        · obtain ⟨y, m, e⟩ := List.exists_cons_of_ne_nil c
          rw [e]
          rfl
        · rfl
      have hml : lastIn l P ∈ l := by
        have e : lastIn l P = (l.filter P).getLast c := by unfold lastIn; rw [List.getLastD_eq_getLast?, List.getLast?_eq_getLast c]; rfl
        have hl : lastIn l P ∈ l.filter P := by rw [e]; exact List.getLast_mem c
        exact (List.mem_filter.mp hl).1
      rw [hlast]
      by_cases hwx : w = x
      · rw [hwx, List.idxOf_cons_self]
        exact Nat.zero_le _
      · have hwl := (List.mem_cons.mp hw).resolve_left hwx
        rw [idx_ne (fun z => hwx z.symm), idx_ne (fun z : x = lastIn l P => h1 (by rw [z]; exact hml))]
        exact Nat.succ_le_succ (ih h2 c w hwl hp)
section
variable {os : List (List Int)} {d v : Nat}
/-- the sign of a room: the own places count backwards -/
def cb (os : List (List Int)) (d v : Nat) (R : List Int) : Bool := if R = irg v d then true else sgb (leastR (fulls os d v) R)
/-- in which way the other room is found -/
inductive Way (os : List (List Int)) (d v : Nat) (R F : List Int) (x y : Int) : Prop
  | own (h : R = irg v d) (i : Nat) (hi : i < d) (hx : x = (v : Int) + i) (hy : y = lstF os i)
  | toOwn (h : R ≠ irg v d) (hF : ∀ q ∈ F, ¬ q < (v : Int)) (ho : ins F y = irg v d)
  | piv (h : R ≠ irg v d) (q : Int) (hq : q ∈ F) (hv : q < (v : Int)) (i j : Nat) (hi : i < d) (hj : j < d) (hx : mnF os d v i R = x) (hz : mnF os d v i F = mnF os d v j R)
      (hy : y = lastIn ((fulls os d v).getD j []) fun w => decide (w ∈ abvAll ((fulls os d v).eraseIdx j) F))
theorem sgb_erase' {L : List Int} {i : Nat} {x : Int} (hn : L.Nodup) (h : L[i]? = some x) : sgb L = (odd (below x L) ^^ (odd i ^^ sgb (L.eraseIdx i))) := by
  have := sgb_erase L i x hn h
  revert this
  generalize sgb L = a
  generalize odd (below x L) = b
  generalize odd i = c
  generalize sgb (L.eraseIdx i) = e
  cases a <;> cases b <;> cases c <;> cases e <;> decide
/-- two lists alike but at i, j: x at i, z at j in A; z at i, y at j in B -/
theorem sgb_pivot {A B : List Int} {i j : Nat} {x y z : Int} (hA : A.Nodup) (hB : B.Nodup) (hl : A.length = B.length) (hij : i ≠ j) (a1 : A[i]? = some x) (a2 : A[j]? = some z) (b1 : B[i]? = some z) (b2 : B[j]? = some y)
    (he : ∀ k, k ≠ i → k ≠ j → A[k]? = B[k]?) : (sgb A ^^ odd (below x A)) = !(sgb B ^^ odd (below y B)) := by
  have hA' : (A.eraseIdx i).Nodup := hA.sublist (List.eraseIdx_sublist _ _)
  have hB' : (B.eraseIdx j).Nodup := hB.sublist (List.eraseIdx_sublist _ _)
  have ge : ∀ (l : List Int) (i k : Nat), (l.eraseIdx i)[k]? = if k < i then l[k]? else l[k + 1]? := fun l i k => List.getElem?_eraseIdx
  have key : ∃ j' i', (odd i ^^ odd j ^^ odd j' ^^ odd i') = true ∧ (A.eraseIdx i)[j']? = some z ∧ (B.eraseIdx j)[i']? = some z ∧ (A.eraseIdx i).eraseIdx j' = (B.eraseIdx j).eraseIdx i' := by
    rcases Nat.lt_or_gt_of_ne hij with h | h
    · refine ⟨j - 1, i, ?_, ?_, ?_, ?_⟩
      · have : odd j = !odd (j - 1) := by rw [← odd_succ, Nat.sub_add_cancel (by omega)]
        rw [this]
        cases odd i <;> cases odd (j - 1) <;> rfl
      · rw [ge, if_neg (by omega), Nat.sub_add_cancel (by omega), a2]
      · rw [ge, if_pos h, b1]
      · apply List.ext_getElem?
        intro k
        rw [ge, ge, ge, ge, ge, ge]
        by_cases c1 : k < i
        · rw [if_pos (by omega), if_pos c1, if_pos c1, if_pos (by omega)]
          exact he k (by omega) (by omega)
        · by_cases c2 : k < j - 1
          · rw [if_pos c2, if_neg c1, if_neg c1, if_pos (by omega)]
            exact he _ (by omega) (by omega)
          · rw [if_neg c2, if_neg (by omega), if_neg c1, if_neg (by omega)]
            exact he _ (by omega) (by omega)
    · refine ⟨j, i - 1, ?_, ?_, ?_, ?_⟩
      · have : odd i = !odd (i - 1) := by rw [← odd_succ, Nat.sub_add_cancel (by omega)]
        rw [this]
        cases odd j <;> cases odd (i - 1) <;> rfl
      · rw [ge, if_pos h, a2]
      · rw [ge, if_neg (by omega), Nat.sub_add_cancel (by omega), b1]
      · apply List.ext_getElem?
        intro k
        rw [ge, ge, ge, ge, ge, ge]
        by_cases c1 : k < j
        · rw [if_pos c1, if_pos (by omega), if_pos (by omega), if_pos c1]
          exact he k (by omega) (by omega)
        · by_cases c2 : k < i - 1
          · rw [if_neg c1, if_pos (by omega), if_pos c2, if_neg c1]
            exact he _ (by omega) (by omega)
          · rw [if_neg c1, if_neg (by omega), if_neg c2, if_neg (by omega)]
            exact he _ (by omega) (by omega)
  obtain ⟨j', i', o, p1, p2, p3⟩ := key
  have h1 := sgb_moved hA' hB' p1 p2 p3
  rw [sgb_erase' hA a1, sgb_erase' hB b2]
  revert o h1
  generalize odd i = c1
  generalize odd j = c2
  generalize odd j' = c3
  generalize odd i' = c4
  generalize sgb (A.eraseIdx i) = c5
  generalize sgb (B.eraseIdx j) = c6
  generalize odd (below x A) = c7
  generalize odd (below y B) = c8
  cases c1 <;> cases c2 <;> cases c3 <;> cases c4 <;> cases c5 <;> cases c6 <;> cases c7 <;> cases c8 <;> decide
end
end K84
/-! part MathE -/
set_option Elab.async false
set_option linter.all false
set_option maxRecDepth 100000
set_option maxHeartbeats 1000000
namespace K84
open PySem PySem.Spec PyProof.Rows L2 Evl FX M84
theorem erase_ext {A B : List Int} {i : Nat} (h : ∀ k, k ≠ i → A[k]? = B[k]?) : A.eraseIdx i = B.eraseIdx i := by
  apply List.ext_getElem?
  intro k
  rw [List.getElem?_eraseIdx, List.getElem?_eraseIdx]
  split
  · exact h k (by omega)
  · exact h _ (by omega)
theorem irg_get {a : Int} {n k : Nat} (h : k < n) : (irg a n)[k]? = some (a + (k : Nat)) := by
  unfold irg
  rw [List.getElem?_map, List.getElem?_range h]
  rfl
section
variable {os : List (List Int)} {d v : Nat}
theorem cb_un (ho : Ords os d v) {R : List Int} (h : R ≠ irg v d) : cb os d v R = sgb (lr d (mnF os d v) R) := by
  unfold cb
  rw [if_neg h, lr_least os d v ho]
theorem mem_roomsU (ho : Ords os d v) {R : List Int} : R ∈ roomsU os d v ↔ isUn os d v R ∨ R = irg v d := by
  unfold roomsU
  rw [List.mem_append, mem_ub ho, List.mem_singleton]
theorem other (ho : Ords os d v) {R : List Int} (hR : R ∈ roomsU os d v) {a : Nat} {x : Int} (hx : R[a]? = some x) : ∃ y, Pl d v y ∧ y ∉ R ∧ ins (R.eraseIdx a) y ∈ roomsU os d v ∧
    (∀ w, Pl d v w → w ∉ R.eraseIdx a → ins (R.eraseIdx a) w ∈ roomsU os d v → w = x ∨ w = y) ∧
    (cb os d v R ^^ odd a) = !(cb os d v (ins (R.eraseIdx a) y) ^^ odd (below y (ins (R.eraseIdx a) y))) ∧ Way os d v R (R.eraseIdx a) x y := by
  have K := rk ho
  obtain ⟨r1, r2, r3⟩ := roomsU_ok ho hR
  have hn := asc_nodup r1
  have hfe := filt_erase hn hx
  have hfm : ∀ q, q ∈ R.eraseIdx a ↔ q ∈ R ∧ q ≠ x := fun q => by rw [← hfe, List.mem_filter, decide_eq_true_iff]
  have hal : a < R.length := (List.getElem?_eq_some_iff.mp hx).1
  have hlen : (R.eraseIdx a).length = d - 1 := by rw [List.length_eraseIdx_of_lt hal, r3]
  have hd : 1 ≤ d := ho.d1
  have hxR : x ∈ R := List.mem_of_getElem? hx
  have ha : below x R = a := below_asc r1 hx
  have hFn : (R.eraseIdx a).Nodup := hn.sublist (List.eraseIdx_sublist _ _)
  generalize hF : R.eraseIdx a = F at hfm hlen hFn hfe ⊢
  have hFP : AllPl d v F := fun q hq => r2 q ((hfm q).mp hq).1
  have hxF : x ∉ F := fun h => ((hfm x).mp h).2 rfl
  have insU : ∀ w, Pl d v w → w ∉ F → Unb d v (rho os d v) (w :: F) → isUn os d v (ins F w) := fun w hw hwF hU =>
    ⟨ins_asc hFn hwF, fun p hp => (List.mem_cons.mp (ins_mem.mp hp)).elim (fun e => e ▸ hw) (hFP p), by rw [(ins_perm F w).length_eq, List.length_cons, hlen]; omega, hU.ext fun p hp => ins_mem.mp hp⟩
  have unI : ∀ w, isUn os d v (ins F w) → Unb d v (rho os d v) (w :: F) := fun w h => h.2.2.2.ext fun p hp => ins_mem.mpr hp
  have oneOwn : ∀ w, w ∉ F → ins F w = irg v d → ∀ q, q ∈ irg v d ↔ q = w ∨ q ∈ F := fun w hw e q => by rw [← e, ins_mem, List.mem_cons]
  have hunb : ∀ {S : List Int}, isUn os d v S → S.Perm (lr d (mnF os d v) S) := fun {S} h => K.perm h.2.1 (asc_nodup h.1) h.2.2.1 h.2.2.2
  by_cases hown : R = irg v d
  · -- the own places
    have had : a < d := by omega
    have hxa : x = (v : Int) + a := by
      rw [hown, irg_get had] at hx
      exact (Option.some.inj hx).symm
    have hF' : ∀ q, q ∈ F ↔ ∃ k, k < d ∧ k ≠ a ∧ q = (v : Int) + k := fun q => by
      rw [hfm, hown, mem_irg, hxa]
      constructor
      · rintro ⟨h1, h2⟩
        exact ⟨(q - v).toNat, by omega, by omega, by omega⟩
      · rintro ⟨k, h1, h2, rfl⟩
        omega
    obtain ⟨p1, p2, p3, p4⟩ := K.own_pivot had hF'
    obtain ⟨l0, l1⟩ := K.lstT a had
    have hyP : Pl d v (lstF os a) := ⟨l0, by omega⟩
    have hyR : lstF os a ∉ R := fun h => by
      rw [hown, mem_irg] at h
      omega
    have hyF : lstF os a ∉ F := fun h => hyR ((hfm _).mp h).1
    have hun := insU _ hyP hyF p1
    have hne : ins F (lstF os a) ≠ irg v d := fun e => by
      have : lstF os a ∈ irg v d := by rw [← e, ins_mem]; exact List.mem_cons_self
      rw [mem_irg] at this
      omega
    refine ⟨lstF os a, hyP, hyR, (mem_roomsU ho).mpr (.inl hun), fun w hw hwF h => ?_, ?_, .own hown a had hxa rfl⟩
    · rcases (mem_roomsU ho).mp h with h | h
      · exact .inr (p2 w hw hwF (unI w h))
      · refine .inl (Classical.byContradiction fun z => hwF ((hfm w).mpr ⟨?_, z⟩))
        rw [hown]
        exact (oneOwn w hwF h w).mpr (.inl rfl)
    · have hcR : cb os d v R = true := by unfold cb; rw [if_pos hown]
      rw [hcR, cb_un ho hne]
      have hyP' : AllPl d v (lstF os a :: F) := fun q hq => (List.mem_cons.mp hq).elim (fun e => e ▸ hyP) (hFP q)
      have ext : ∀ k, k < d → mnF os d v k (ins F (lstF os a)) = mnF os d v k (lstF os a :: F) := fun k hk => K.mn_ext hk hyP' (by simp) fun p => ins_mem
      have g1 : (lr d (mnF os d v) (ins F (lstF os a)))[a]? = some (lstF os a) := by rw [lr_get had, ext a had, p3]
      have g2 : (lr d (mnF os d v) (ins F (lstF os a))).eraseIdx a = F := by
        have hFown : F = (irg v d).eraseIdx a := by rw [← hF, hown]
        refine Eq.trans (erase_ext fun k hk => ?_) hFown.symm
        by_cases hkd : k < d
        · rw [lr_get hkd, irg_get hkd, ext k hkd, p4 k hkd hk]
        · rw [List.getElem?_eq_none (by rw [lr_len]; omega), List.getElem?_eq_none (by rw [irg_len]; omega)]
      rw [sgb_erase' ((hunb hun).nodup_iff.mp (asc_nodup hun.1)) g1, g2, below_perm (hunb hun).symm, sgb_asc (l := F) (by rw [← hF]; exact r1.sublist (List.eraseIdx_sublist _ _))]
      generalize odd a = b1
      generalize odd (below (lstF os a) (ins F (lstF os a))) = b2
      cases b1 <;> cases b2 <;> rfl
  · -- an unbeaten room
    have hU : isUn os d v R := ((mem_roomsU ho).mp hR).resolve_right hown
    have hUx : Unb d v (rho os d v) (x :: F) := hU.2.2.2.ext fun p hp => (List.mem_cons.mp hp).elim (fun e => e ▸ hxR) fun h => ((hfm p).mp h).1
    by_cases hth : ∃ q ∈ F, q < (v : Int)
    · obtain ⟨q, hq, hqv⟩ := hth
      obtain ⟨i, hi, hix⟩ := K.hit r2 hU.2.2.2 hxR
      have hFne : F ≠ [] := List.ne_nil_of_mem hq
      have hd2 : 2 ≤ d := by have := List.length_pos_of_mem hq; omega
      obtain ⟨z1, z2⟩ := K.mnS i hi F hFne hFP
      obtain ⟨j, hj, hjz⟩ := K.hit r2 hU.2.2.2 ((hfm _).mp z1).1
      -- the candidates
      have hrl : (fulls os d v).length = d := by rw [fulls_len, ho.len]
      have hne2 : (fulls os d v).eraseIdx j ≠ [] := fun e => by
        have := congrArg List.length e
        rw [List.length_eraseIdx_of_lt (by omega), hrl] at this
        simp at this
        omega
      have cand : ∀ w, Pl d v w → (w ∈ abvAll ((fulls os d v).eraseIdx j) F ↔ ∀ k, k < d → k ≠ j → Abv (rho os d v) k F w) := fun w hw => by
        rw [mem_all hne2]
        have one : ∀ k, k < d → (w ∈ abvP ((fulls os d v).getD k []) F ↔ Abv (rho os d v) k F w) := fun k hk => by
          have hrm := row_mem ho hk
          have hperm := full_perm ho hrm
          have hnd := hperm.nodup_iff.mpr (irg_nodup _ _)
          unfold abvP
          rw [mem_drop_idx hnd (hperm.mem_iff.mpr (pl_irg.mp hw))]
          obtain ⟨m1, m2⟩ := K.mnS k hk F hFne hFP
          constructor
          · intro h
            exact ⟨_, m1, h⟩
          · rintro ⟨u, hu, lt⟩
            exact Nat.lt_of_le_of_lt (m2 u hu) lt
        constructor
        · intro h k hk hkj
          obtain ⟨o, _, _, e, g⟩ := row_at ho hk
          refine (one k hk).mp (h _ ?_)
          rw [List.mem_eraseIdx_iff_getElem?]
          exact ⟨k, hkj, by rw [e]; exact g⟩
        · intro h r hr
          obtain ⟨k, hkj, g⟩ := List.mem_eraseIdx_iff_getElem?.mp hr
          have hk : k < d := by rw [← hrl]; exact (List.getElem?_eq_some_iff.mp g).1
          have e : (fulls os d v).getD k [] = r := by rw [List.getD_eq_getElem?_getD, g]; rfl
          rw [← e]
          exact (one k hk).mpr (h k hk hkj)
      have hrj := full_perm ho (row_mem ho hj)
      have hex : ∃ w ∈ (fulls os d v).getD j [], decide (w ∈ abvAll ((fulls os d v).eraseIdx j) F) = true := by
        have hw : Pl d v ((v : Int) + j) := ⟨by omega, by omega⟩
        exact ⟨(v : Int) + j, hrj.mem_iff.mpr (pl_irg.mp hw), decide_eq_true ((cand _ hw).mpr (K.own_above hq (hFP q hq).1 hqv hj))⟩
      obtain ⟨y1, y2, y3⟩ := lastIn_ok (hrj.nodup_iff.mpr (irg_nodup _ _)) hex
      generalize hy : lastIn ((fulls os d v).getD j []) (fun w => decide (w ∈ abvAll ((fulls os d v).eraseIdx j) F)) = y at y1 y2 y3
      have hyP : Pl d v y := pl_irg.mpr (hrj.mem_iff.mp y1)
      obtain ⟨q1, q2, q3, q4, q5, q6, q7, q8⟩ := K.pivot r2 hn r3 hU.2.2.2 hi hix hfm hFne hj hjz.symm hyP ((cand y hyP).mp (of_decide_eq_true y2)) fun w hw hM => y3 w (hrj.mem_iff.mpr (pl_irg.mp hw)) (decide_eq_true ((cand w hw).mpr hM))
      have hun := insU y hyP q2 q4
      have noOwn : ∀ w, ins F w ≠ irg v d := fun w e => by
        have : q ∈ irg v d := by rw [← e, ins_mem]; exact List.mem_cons_of_mem _ hq
        rw [mem_irg] at this
        omega
      refine ⟨y, hyP, fun h => q2 ((hfm y).mpr ⟨h, q3⟩), (mem_roomsU ho).mpr (.inl hun), fun w hw hwF h => ?_, ?_, .piv hown q hq hqv i j hi hj hix hjz.symm hy.symm⟩
      · exact q5 w hw hwF (unI w (((mem_roomsU ho).mp h).resolve_right (noOwn w)))
      · rw [cb_un ho hown, cb_un ho (noOwn y)]
        have hyP' : AllPl d v (y :: F) := fun p hp => (List.mem_cons.mp hp).elim (fun e => e ▸ hyP) (hFP p)
        have ext : ∀ k, k < d → mnF os d v k (ins F y) = mnF os d v k (y :: F) := fun k hk => K.mn_ext hk hyP' (by simp) fun p => ins_mem
        have h := sgb_pivot (A := lr d (mnF os d v) R) (B := lr d (mnF os d v) (ins F y)) (i := i) (j := j) (x := x) (y := y) (z := mnF os d v j R) ((hunb hU).nodup_iff.mp hn) ((hunb hun).nodup_iff.mp (asc_nodup hun.1)) (by rw [lr_len, lr_len]) q1
          (by rw [lr_get hi, hix]) (lr_get hj _) (by rw [lr_get hi, ext i hi, q6]) (by rw [lr_get hj, ext j hj, q7]) fun k hki hkj => by
            by_cases hk : k < d
            · rw [lr_get hk, lr_get hk, ext k hk, q8 k hk hki hkj]
            · rw [List.getElem?_eq_none (by rw [lr_len]; omega), List.getElem?_eq_none (by rw [lr_len]; omega)]
        rw [below_perm (hunb hU).symm, below_perm (hunb hun).symm, ha] at h
        exact h
    · -- no thing stays
      have hge : ∀ q ∈ F, ¬ q < (v : Int) := fun q hq z => hth ⟨q, hq, z⟩
      have hFo : ∀ q ∈ F, q ∈ irg v d := fun q hq => by
        have := hge q hq
        have := (hFP q hq).2
        rw [mem_irg]
        omega
      obtain ⟨e, he1, he2⟩ : ∃ e ∈ irg v d, e ∉ F := Classical.byContradiction fun z => by
        have := perm_of_sub (irg_nodup (v : Int) d) (L := F) (fun p hp => Classical.byContradiction fun y => z ⟨p, hp, y⟩) (by rw [irg_len]; omega)
        have := this.length_eq
        rw [irg_len] at this
        omega
      have hpe : (e :: F).Perm (irg v d) := perm_of_sub (List.nodup_cons.mpr ⟨he2, hFn⟩) (fun p hp => (List.mem_cons.mp hp).elim (fun z => z ▸ he1) (hFo p)) (by rw [irg_len, List.length_cons]; omega)
      have heb := mem_irg.mp he1
      obtain ⟨i, hei⟩ : ∃ i : Nat, e = (v : Int) + i := ⟨(e - v).toNat, by omega⟩
      have hi : i < d := by omega
      have hF' : ∀ q, q ∈ F ↔ ∃ k, k < d ∧ k ≠ i ∧ q = (v : Int) + k := fun q => by
        constructor
        · intro h
          have h1 := mem_irg.mp (hFo q h)
          refine ⟨(q - v).toNat, by omega, fun z => he2 ?_, by omega⟩
          rw [hei, show (v : Int) + i = q by omega]
          exact h
        · rintro ⟨k, h1, h2, rfl⟩
          refine (List.mem_cons.mp (hpe.mem_iff.mpr (mem_irg.mpr (by omega)))).resolve_left fun z => ?_
          omega
      obtain ⟨p1, p2, p3, p4⟩ := K.own_pivot hi hF'
      have hxl : x = lstF os i := p2 x (r2 x hxR) hxF hUx
      obtain ⟨l0, l1⟩ := K.lstT i hi
      have hins : ins F e = irg v d := asc_eq (ins_asc hFn he2) (irg_asc _ _) fun q => by rw [ins_mem, hpe.mem_iff]
      refine ⟨e, ⟨by omega, by omega⟩, fun h => he2 ((hfm e).mpr ⟨h, by omega⟩), (mem_roomsU ho).mpr (.inr hins), fun w hw hwF h => ?_, ?_, .toOwn hown hge hins⟩
      · rcases (mem_roomsU ho).mp h with h | h
        · exact .inl (hxl ▸ p2 w hw hwF (unI w h))
        · refine .inr ((List.mem_cons.mp (hpe.mem_iff.mpr ((oneOwn w hwF h w).mpr (.inl rfl)))).resolve_right hwF)
      · rw [hins, cb_un ho hown]
        have hcO : cb os d v (irg v d) = true := by unfold cb; rw [if_pos rfl]
        rw [hcO]
        have hyP' : AllPl d v (lstF os i :: F) := fun q hq => (List.mem_cons.mp hq).elim (fun z => z ▸ ⟨l0, by omega⟩) (hFP q)
        have ext : ∀ k, k < d → mnF os d v k R = mnF os d v k (lstF os i :: F) := fun k hk => K.mn_ext hk hyP' (by simp) fun p => by
          rw [List.mem_cons, hfm, ← hxl]
          constructor
          · intro h
            by_cases z : p = x
            · exact .inl z
            · exact .inr ⟨h, z⟩
          · rintro (rfl | h)
            · exact hxR
            · exact h.1
        have g1 : (lr d (mnF os d v) R)[i]? = some x := by rw [lr_get hi, ext i hi, p3, hxl]
        have g2 : (lr d (mnF os d v) R).eraseIdx i = (irg v d).eraseIdx i := by
          refine erase_ext fun k hk => ?_
          by_cases hkd : k < d
          · rw [lr_get hkd, irg_get hkd, ext k hkd, p4 k hkd hk]
          · rw [List.getElem?_eq_none (by rw [lr_len]; omega), List.getElem?_eq_none (by rw [irg_len]; omega)]
        rw [sgb_erase' ((hunb hU).nodup_iff.mp hn) g1, g2, below_perm (hunb hU).symm, ha, sgb_asc (l := (irg v d).eraseIdx i) ((irg_asc _ _).sublist (List.eraseIdx_sublist _ _)), below_asc (irg_asc v d) (p := i) (by rw [irg_get hi, hei])]
        generalize odd a = b1
        generalize odd i = b2
        cases b1 <;> cases b2 <;> rfl
end
end K84
/-! part MathF -/
set_option Elab.async false
set_option linter.all false
set_option maxRecDepth 100000
set_option maxHeartbeats 1000000
namespace K84
open PySem PySem.Spec PyProof.Rows L2 Evl FX M84
/-! ### sorted lists -/
theorem rowLe_iff {a b : List Int} : rowLe a b = true ↔ a ≤ b := by
  unfold rowLe
  rw [Bool.not_eq_true', decide_eq_false_iff_not]
  exact List.not_lt
theorem rowLe_trans (a b c : List Int) (h1 : rowLe a b = true) (h2 : rowLe b c = true) : rowLe a c = true := rowLe_iff.mpr (List.le_trans (rowLe_iff.mp h1) (rowLe_iff.mp h2))
theorem rowLe_total (a b : List Int) : (rowLe a b || rowLe b a) = true := by
  rw [Bool.or_eq_true, rowLe_iff, rowLe_iff]
  exact List.le_total a b
theorem rowLe_anti {a b : List Int} (h1 : rowLe a b = true) (h2 : rowLe b a = true) : a = b := List.le_antisymm (rowLe_iff.mp h1) (rowLe_iff.mp h2)
theorem sortR_perm (l : List (List Int)) : (sortR l).Perm l := List.mergeSort_perm l _
theorem sortR_pair (l : List (List Int)) : (sortR l).Pairwise fun a b => rowLe a b = true := List.pairwise_mergeSort rowLe_trans rowLe_total l
theorem sortR_unique {l m : List (List Int)} (hp : l.Perm m) (hs : m.Pairwise fun a b => rowLe a b = true) : sortR l = m :=
  List.Perm.eq_of_pairwise (le := fun a b => rowLe a b = true) (fun a b _ _ h1 h2 => rowLe_anti h1 h2) (sortR_pair l) hs ((sortR_perm l).trans hp)
theorem sortR_congr {l m : List (List Int)} (hp : l.Perm m) : sortR l = sortR m := sortR_unique (hp.trans (sortR_perm m).symm) (sortR_pair m)
theorem sortR_idem (l : List (List Int)) : sortR (sortR l) = sortR l := sortR_congr (sortR_perm l)
theorem tmLe_iff {p q : List Int × Int} : tmLe p q = true ↔ p.1 ≤ q.1 ∧ (q.1 = p.1 → p.2 ≤ q.2) := by
  unfold tmLe
  rw [Bool.not_eq_true', Bool.or_eq_false_iff, Bool.and_eq_false_iff, decide_eq_false_iff_not, decide_eq_false_iff_not, decide_eq_false_iff_not]
  refine and_congr List.not_lt ⟨fun h e => ?_, fun h => ?_⟩
  · rcases h with h | h
    · exact absurd e h
    · omega
  · by_cases c : q.1 = p.1
    · exact .inr (by have := h c; omega)
    · exact .inl c
theorem tmLe_trans (a b c : List Int × Int) (h1 : tmLe a b = true) (h2 : tmLe b c = true) : tmLe a c = true := by
  obtain ⟨a1, a2⟩ := tmLe_iff.mp h1
  obtain ⟨b1, b2⟩ := tmLe_iff.mp h2
  refine tmLe_iff.mpr ⟨List.le_trans a1 b1, fun e => ?_⟩
  have e2 : b.1 = a.1 := List.le_antisymm (e ▸ b1) a1
  have := a2 e2
  have := b2 (e.trans e2.symm)
  omega
theorem tmLe_total (a b : List Int × Int) : (tmLe a b || tmLe b a) = true := by
  rw [Bool.or_eq_true, tmLe_iff, tmLe_iff]
  by_cases c : a.1 = b.1
  · rw [c]
    by_cases h : a.2 ≤ b.2
    · exact .inl ⟨List.le_refl _, fun _ => h⟩
    · exact .inr ⟨List.le_refl _, fun _ => by omega⟩
  · rcases List.le_total a.1 b.1 with h | h
    · exact .inl ⟨h, fun e => absurd e.symm c⟩
    · exact .inr ⟨h, fun e => absurd e c⟩
theorem tmLe_anti {a b : List Int × Int} (h1 : tmLe a b = true) (h2 : tmLe b a = true) : a = b := by
  obtain ⟨a1, a2⟩ := tmLe_iff.mp h1
  obtain ⟨b1, b2⟩ := tmLe_iff.mp h2
  have e := List.le_antisymm a1 b1
  exact Prod.ext e (Int.le_antisymm (a2 e.symm) (b2 e))
theorem sortT_unique {l m : List (List Int × Int)} (hp : l.Perm m) (hs : m.Pairwise fun a b => tmLe a b = true) : sortT l = m :=
  List.Perm.eq_of_pairwise (le := fun a b => tmLe a b = true) (fun a b _ _ h1 h2 => tmLe_anti h1 h2) (List.pairwise_mergeSort tmLe_trans tmLe_total l) hs ((List.mergeSort_perm l _).trans hp)
/-- terms of distinct rooms are sorted by their rooms -/
theorem sortT_rooms {ts : List (List Int × Int)} {l : List (List Int)} {c : List Int → Int} (hn : l.Nodup) (h : ts.Perm (l.map fun r => (r, c r))) : sortT ts = (sortR l).map fun r => (r, c r) := by
  refine sortT_unique (h.trans ((sortR_perm l).symm.map _)) (List.pairwise_map.mpr ?_)
  have hn2 : (sortR l).Nodup := (sortR_perm l).nodup_iff.mpr hn
  exact (List.pairwise_and_iff.mpr ⟨sortR_pair l, hn2⟩).imp fun ⟨h1, h2⟩ => tmLe_iff.mpr ⟨rowLe_iff.mp h1, fun e => absurd e.symm h2⟩
/-! ### sums with two summands -/
theorem sum_zero {α : Type} {g : α → Int} : ∀ {L : List α}, (∀ r ∈ L, g r = 0) → (L.map g).sum = 0
  | [], _ => rfl
  | x :: L, h => by rw [List.map_cons, List.sum_cons, h x List.mem_cons_self, sum_zero fun r hr => h r (List.mem_cons_of_mem _ hr)]; rfl
theorem sum_one {α : Type} {g : α → Int} {A : α} : ∀ {L : List α}, L.Nodup → A ∈ L → (∀ r ∈ L, r ≠ A → g r = 0) → (L.map g).sum = g A
  | [], _, h, _ => by cases h
  | x :: L, hn, h, hz => by
    obtain ⟨h1, h2⟩ := List.nodup_cons.mp hn
    rw [List.map_cons, List.sum_cons]
    rcases List.mem_cons.mp h with e | h
    · subst e
      rw [sum_zero fun r hr => hz r (List.mem_cons_of_mem _ hr) fun z => h1 (z ▸ hr), Int.add_zero]
    · rw [sum_one h2 h fun r hr hne => hz r (List.mem_cons_of_mem _ hr) hne, hz x List.mem_cons_self fun z => h1 (z ▸ h), Int.zero_add]
theorem sum_two {α : Type} {g : α → Int} {A B : α} : ∀ {L : List α}, L.Nodup → A ∈ L → B ∈ L → A ≠ B → (∀ r ∈ L, r ≠ A → r ≠ B → g r = 0) → (L.map g).sum = g A + g B
  | [], _, h, _, _, _ => by cases h
  | x :: L, hn, ha, hb, hab, hz => by
    obtain ⟨h1, h2⟩ := List.nodup_cons.mp hn
    rw [List.map_cons, List.sum_cons]
    rcases List.mem_cons.mp ha with e | ha2
    · subst e
      rw [sum_one h2 ((List.mem_cons.mp hb).resolve_left fun z => hab z.symm) fun r hr hne => hz r (List.mem_cons_of_mem _ hr) (fun z => h1 (z ▸ hr)) hne]
    · rcases List.mem_cons.mp hb with e | hb2
      · subst e
        rw [sum_one h2 ha2 fun r hr hne => hz r (List.mem_cons_of_mem _ hr) hne fun z => h1 (z ▸ hr), Int.add_comm]
      · rw [sum_two h2 ha2 hb2 hab fun r hr => hz r (List.mem_cons_of_mem _ hr), hz x List.mem_cons_self (fun z => h1 (z ▸ ha2)) (fun z => h1 (z ▸ hb2)), Int.zero_add]
theorem filter_one {α : Type} {A : α} {P : α → Bool} : ∀ {L : List α}, L.Nodup → A ∈ L → (∀ r ∈ L, P r = true ↔ r = A) → L.filter P = [A]
  | [], _, h, _ => by cases h
  | x :: L, hn, h, hp => by
    obtain ⟨h1, h2⟩ := List.nodup_cons.mp hn
    rw [List.filter_cons]
    rcases List.mem_cons.mp h with e | h
    · subst e
      rw [if_pos ((hp A List.mem_cons_self).mpr rfl), List.filter_eq_nil_iff.mpr fun r hr z => h1 ((hp r (List.mem_cons_of_mem _ hr)).mp z ▸ hr)]
    · rw [if_neg fun z => h1 ((hp x List.mem_cons_self).mp z ▸ h), filter_one h2 h fun r hr => hp r (List.mem_cons_of_mem _ hr)]
/-! ### the faces of ascending rooms -/
theorem fcs_iff {R f : List Int} : f ∈ fcs R ↔ ∃ a, a < R.length ∧ R.eraseIdx a = f := by
  unfold fcs
  rw [List.mem_map]
  constructor
  · rintro ⟨a, h, e⟩
    exact ⟨a, List.mem_range.mp h, e⟩
  · rintro ⟨a, h, e⟩
    exact ⟨a, List.mem_range.mpr h, e⟩
theorem erase_inj {R : List Int} (hn : R.Nodup) {a b : Nat} (ha : a < R.length) (hb : b < R.length) (e : R.eraseIdx a = R.eraseIdx b) : a = b := by
  have h1 := filt_erase hn (List.getElem?_eq_getElem ha)
  have h2 := filt_erase hn (List.getElem?_eq_getElem hb)
  rw [← h1, ← h2] at e
  refine (List.getElem_inj (h₀ := ha) (h₁ := hb) hn).mp (Classical.byContradiction fun hne => ?_)
  have : R[b] ∈ R.filter (fun q => decide (q ≠ R[a])) := List.mem_filter.mpr ⟨List.getElem_mem hb, decide_eq_true fun z => hne z.symm⟩
  rw [e] at this
  exact of_decide_eq_true (List.mem_filter.mp this).2 rfl
theorem fcs_nodup {R : List Int} (hn : R.Nodup) : (fcs R).Nodup := by
  unfold fcs
  refine List.pairwise_map.mpr ((List.pairwise_lt_range (n := R.length)).imp_of_mem fun {i j} hi hj hij e => ?_)
  have := erase_inj hn (List.mem_range.mp hi) (List.mem_range.mp hj) e
  omega
/-- the rooms of L pair off at each face -/
structure Paired (L : List (List Int)) (c : List Int → Bool) : Prop where
  nd : L.Nodup
  asc : ∀ R ∈ L, R.Pairwise (· < ·)
  two : ∀ R ∈ L, ∀ a, a < R.length → ∃ S ∈ L, ∃ b, b < S.length ∧ S ≠ R ∧ S.eraseIdx b = R.eraseIdx a ∧ (c R ^^ odd a) = !(c S ^^ odd b) ∧ ∀ T ∈ L, R.eraseIdx a ∈ fcs T → T = R ∨ T = S
theorem Paired.perm {L M : List (List Int)} {c : List Int → Bool} (h : Paired L c) (hp : L.Perm M) : Paired M c :=
  ⟨hp.nodup_iff.mp h.nd, fun R hR => h.asc R (hp.mem_iff.mpr hR), fun R hR a ha => by
    obtain ⟨S, s1, b, s2, s3, s4, s5, s6⟩ := h.two R (hp.mem_iff.mpr hR) a ha
    exact ⟨S, hp.mem_iff.mp s1, b, s2, s3, s4, s5, fun T hT => s6 T (hp.mem_iff.mpr hT)⟩⟩
theorem rooms_paired {os : List (List Int)} {d v : Nat} (ho : Ords os d v) : Paired (roomsU os d v) (cb os d v) := by
  refine ⟨roomsU_nodup ho, fun R hR => (roomsU_ok ho hR).1, fun R hR a ha => ?_⟩
  obtain ⟨r1, r2, r3⟩ := roomsU_ok ho hR
  obtain ⟨y, y1, y2, y3, y4, y5, _⟩ := other ho hR (List.getElem?_eq_getElem ha)
  have hFn : (R.eraseIdx a).Nodup := (asc_nodup r1).sublist (List.eraseIdx_sublist _ _)
  have hyF : y ∉ R.eraseIdx a := fun h => y2 ((List.eraseIdx_sublist _ _).subset h)
  have hyS : y ∈ ins (R.eraseIdx a) y := ins_mem.mpr List.mem_cons_self
  have hSa := ins_asc hFn hyF
  obtain ⟨b, hb, hbe⟩ := List.mem_iff_getElem.mp hyS
  have hbg : (ins (R.eraseIdx a) y)[b]? = some y := by rw [List.getElem?_eq_getElem hb, hbe]
  have hbb := below_asc hSa hbg
  have hSe : (ins (R.eraseIdx a) y).eraseIdx b = R.eraseIdx a := by
    refine asc_eq (hSa.sublist (List.eraseIdx_sublist _ _)) (r1.sublist (List.eraseIdx_sublist _ _)) fun q => ?_
    rw [← filt_erase (asc_nodup hSa) hbg, List.mem_filter, decide_eq_true_iff, ins_mem, List.mem_cons]
    constructor
    · rintro ⟨h1, h2⟩
      exact h1.resolve_left h2
    · exact fun h => ⟨.inr h, fun z => hyF (z ▸ h)⟩
  refine ⟨_, y3, b, hb, fun z => y2 (z ▸ hyS), hSe, by rw [hbb] at y5; exact y5, fun T hT hf => ?_⟩
  obtain ⟨t1, t2, t3⟩ := roomsU_ok ho hT
  obtain ⟨e, he, hee⟩ := fcs_iff.mp hf
  have hTi := ins_erase t1 (List.getElem?_eq_getElem he)
  rw [hee] at hTi
  have hw : T[e] ∉ R.eraseIdx a := fun h => by
    rw [← hee, ← filt_erase (asc_nodup t1) (List.getElem?_eq_getElem he), List.mem_filter] at h
    exact of_decide_eq_true h.2 rfl
  rcases y4 T[e] (t2 _ (List.getElem_mem he)) hw (by rw [hTi]; exact hT) with h | h
  · left
    rw [← hTi, h, ins_erase r1 (List.getElem?_eq_getElem ha)]
  · right
    rw [← hTi, h]
end K84
/-! part MathG -/
set_option Elab.async false
set_option linter.all false
set_option maxRecDepth 100000
set_option maxHeartbeats 1000000
namespace K84
open PySem PySem.Spec PyProof.Rows L2 Evl FX M84
/-! ### counts of faces -/
theorem count_flat (f : List Int) : ∀ L : List (List Int), (((L.flatMap fcs).count f : Nat) : Int) = (L.map fun R => (((fcs R).count f : Nat) : Int)).sum
  | [] => rfl
  | R :: L => by
    rw [List.flatMap_cons, List.count_append, List.map_cons, List.sum_cons, ← count_flat f L]
    omega
theorem count_fcs {R f : List Int} (hn : R.Nodup) : (((fcs R).count f : Nat) : Int) = if f ∈ fcs R then 1 else 0 := by
  rw [List.Nodup.count (fcs_nodup hn)]
  split <;> rfl
theorem Paired.count2 {L : List (List Int)} {c : List Int → Bool} (h : Paired L c) {f : List Int} (hf : f ∈ L.flatMap fcs) : (L.flatMap fcs).count f = 2 := by
  obtain ⟨R, hR, hfR⟩ := List.mem_flatMap.mp hf
  obtain ⟨a, ha, hae⟩ := fcs_iff.mp hfR
  obtain ⟨S, s1, b, s2, s3, s4, _, s6⟩ := h.two R hR a ha
  have hfS : f ∈ fcs S := fcs_iff.mpr ⟨b, s2, s4.trans hae⟩
  have e := count_flat f L
  rw [sum_two h.nd hR s1 (fun z => s3 z.symm) fun T hT h1 h2 => ?_, count_fcs (asc_nodup (h.asc R hR)), count_fcs (asc_nodup (h.asc S s1)), if_pos hfR, if_pos hfS] at e
  · omega
  · rw [count_fcs (asc_nodup (h.asc T hT)), if_neg]
    intro z
    rcases s6 T hT (by rw [hae]; exact z) with q | q
    · exact h1 q
    · exact h2 q
theorem cnt_val {L : List (List Int)} {p : List Int × Int} (h : p ∈ cntL L) : p.1 ∈ L ∧ p.2 = ((L.count p.1 : Nat) : Int) := by
  have e := cnt_get h
  obtain ⟨_, c2, _, c4⟩ := cntL_ok L
  have hm := (c4 p.1).mp (List.mem_map.mpr ⟨p, h, rfl⟩)
  rw [valD_enc, c2, if_pos hm] at e
  refine ⟨hm, ?_⟩
  have : Dat.int ((L.count p.1 : Nat) : Int) = Dat.int p.2 := Option.some.inj e
  exact (Dat.int.inj this).symm
theorem Paired.two_each {L : List (List Int)} {c : List Int → Bool} (h : Paired L c) : ((cntL (L.flatMap fcs)).filter fun p => decide (p.2 ≠ 2)).length = 0 := by
  rw [List.length_eq_zero_iff, List.filter_eq_nil_iff]
  intro p hp
  obtain ⟨h1, h2⟩ := cnt_val hp
  rw [h2, h.count2 h1]
  decide
theorem Paired.even {L : List (List Int)} {c : List Int → Bool} (h : Paired L c) : oddF L = [] := by
  have : ((cntL (L.flatMap fcs)).filter fun p => decide (p.2 % 2 = 1)) = [] := by
    rw [List.filter_eq_nil_iff]
    intro p hp
    obtain ⟨h1, h2⟩ := cnt_val hp
    rw [h2, h.count2 h1]
    decide
  unfold oddF
  rw [this]
  exact List.mergeSort_nil
/-! ### the table of faces -/
theorem pairs_filter {R f : List Int} (hn : R.Nodup) : ((pairsOf R).filter fun p => decide (p.1 = f)).map (·.2) = if f ∈ fcs R then [R] else [] := by
  unfold pairsOf
  rw [List.filter_map, List.map_map]
  by_cases h : f ∈ fcs R
  · obtain ⟨a, ha, hae⟩ := fcs_iff.mp h
    rw [if_pos h, filter_one (A := a) List.nodup_range (List.mem_range.mpr ha)]
    · rfl
    · intro r hr
      show decide (R.eraseIdx r = f) = true ↔ _
      rw [decide_eq_true_iff]
      exact ⟨fun e => erase_inj hn (List.mem_range.mp hr) ha (e.trans hae.symm), fun e => by rw [e, hae]⟩
  · rw [if_neg h, List.filter_eq_nil_iff.mpr]
    · rfl
    · intro r hr
      show ¬ decide (R.eraseIdx r = f) = true
      rw [decide_eq_true_iff]
      exact fun e => h (fcs_iff.mpr ⟨r, List.mem_range.mp hr, e⟩)
theorem flat_filter {f : List Int} : ∀ {L : List (List Int)}, (∀ R ∈ L, R.Nodup) → ((L.flatMap pairsOf).filter fun p => decide (p.1 = f)).map (·.2) = L.filter fun R => decide (f ∈ fcs R)
  | [], _ => rfl
  | R :: L, h => by
    rw [List.flatMap_cons, List.filter_append, List.map_append, pairs_filter (h R List.mem_cons_self), flat_filter fun R hR => h R (List.mem_cons_of_mem _ hR), List.filter_cons]
    by_cases c : f ∈ fcs R
    · rw [if_pos c, if_pos (decide_eq_true c)]
      rfl
    · rw [if_neg c, if_neg (by rw [decide_eq_true_iff]; exact c)]
      rfl
/-- the rooms of a face in the table -/
theorem tab_val {L : List (List Int)} (h : ∀ R ∈ L, R.Nodup) {R : List Int} (hR : R ∈ L) {a : Nat} (ha : a < R.length) : valA (tabL (L.flatMap pairsOf)) (R.eraseIdx a) = some (L.filter fun S => decide (R.eraseIdx a ∈ fcs S)) := by
  obtain ⟨h1, h2⟩ := (tabL_ok (L.flatMap pairsOf)).2 (R.eraseIdx a)
  have h3 := h2 ⟨(R.eraseIdx a, R), List.mem_flatMap.mpr ⟨R, hR, List.mem_map.mpr ⟨a, List.mem_range.mpr ha, rfl⟩⟩, rfl⟩
  obtain ⟨x, hx⟩ := Option.isSome_iff_exists.mp h3
  rw [hx] at h1 ⊢
  rw [flat_filter h] at h1
  exact congrArg some h1
theorem Paired.others {L : List (List Int)} {c : List Int → Bool} (h : Paired L c) {R S : List Int} (hR : R ∈ L) {a : Nat} (ha : a < R.length) (hS : S ∈ L) (hne : S ≠ R) (hf : R.eraseIdx a ∈ fcs S) : (L.filter fun T => decide (R.eraseIdx a ∈ fcs T)).filter (fun T => decide (T ≠ R)) = [S] := by
  obtain ⟨S', s1, b, s2, s3, s4, _, s6⟩ := h.two R hR a ha
  have e : S = S' := (s6 S hS hf).resolve_left hne
  rw [List.filter_filter]
  refine filter_one h.nd hS fun T hT => ?_
  rw [Bool.and_eq_true, decide_eq_true_iff, decide_eq_true_iff]
  constructor
  · rintro ⟨h1, h2⟩
    rw [e]
    exact (s6 T hT h2).resolve_left h1
  · rintro rfl
    exact ⟨hne, hf⟩
/-! ### chains -/
theorem totS_append (A B : List (List Int × Int)) (r : List Int) : totS (A ++ B) r = totS A r + totS B r := by
  unfold totS
  rw [List.filter_append, List.map_append, List.sum_append]
theorem totS_flat {α : Type} (g : α → List (List Int × Int)) (r : List Int) : ∀ L : List α, totS (L.flatMap g) r = (L.map fun R => totS (g R) r).sum
  | [] => rfl
  | R :: L => by rw [List.flatMap_cons, totS_append, totS_flat g r L]; rfl
theorem totS_one (q : List Int × Int) (r : List Int) : totS [q] r = if sortI q.1 = r then q.2 * sg q.1 else 0 := by
  unfold totS
  rw [List.filter_cons, List.filter_nil]
  by_cases c : sortI q.1 = r
  · rw [if_pos c, if_pos (decide_eq_true c)]
    show q.2 * sg q.1 + 0 = _
    omega
  · rw [if_neg c, if_neg (by rw [decide_eq_true_iff]; exact c)]
    rfl
theorem totS_map {α : Type} (g : α → List Int × Int) (r : List Int) (L : List α) : totS (L.map g) r = (L.map fun R => totS [g R] r).sum := by
  rw [← totS_flat, List.map_eq_flatMap]
theorem bndQ_eq (q : List Int × Int) : bndQ q = (List.range q.1.length).map fun k => (q.1.eraseIdx k, q.2 * (1 - 2 * ((k : Int) % 2))) := by
  apply List.ext_getElem?
  intro k
  by_cases h : k < q.1.length
  · rw [List.getElem?_map, List.getElem?_range h, bndQ_get (f := q.1.eraseIdx k)]
    · rfl
    · unfold fcs
      rw [List.getElem?_map, List.getElem?_range h]
      rfl
  · rw [List.getElem?_eq_none (by rw [bndQ_len]; omega), List.getElem?_eq_none (by rw [List.length_map, List.length_range]; omega)]
theorem pm_odd (b : Nat) : 1 - 2 * ((b : Int) % 2) = pm (odd b) := by
  unfold odd pm
  have : b % 2 = 0 ∨ b % 2 = 1 := by omega
  rcases this with h | h
  · rw [h]
    show _ = (1 : Int)
    omega
  · rw [h]
    show _ = (-1 : Int)
    omega
theorem sg_asc {l : List Int} (h : l.Pairwise (· < ·)) : sg l = 1 := by
  unfold sg
  rw [sgb_asc h]
  rfl
theorem tot_bnd {R f : List Int} (hR : R.Pairwise (· < ·)) (x : Bool) : (∀ b, b < R.length → R.eraseIdx b = f → totS (bndQ (R, pm x)) f = pm (x ^^ odd b)) ∧ (f ∉ fcs R → totS (bndQ (R, pm x)) f = 0) := by
  have ea : ∀ k, (R.eraseIdx k).Pairwise (· < ·) := fun k => hR.sublist (List.eraseIdx_sublist _ _)
  have e : totS (bndQ (R, pm x)) f = ((List.range R.length).map fun k => if R.eraseIdx k = f then pm (x ^^ odd k) else 0).sum := by
    rw [bndQ_eq, totS_map]
    refine congrArg List.sum (List.map_congr_left fun k hk => ?_)
    rw [totS_one]
    show (if sortI (R.eraseIdx k) = f then pm x * (1 - 2 * ((k : Int) % 2)) * sg (R.eraseIdx k) else 0) = _
    rw [sortI_self (ea k), sg_asc (ea k), pm_odd, Int.mul_one, pm_mul]
  constructor
  · intro b hb hbe
    rw [e, sum_one (A := b) List.nodup_range (List.mem_range.mpr hb), if_pos hbe]
    intro k hk hne
    rw [if_neg]
    exact fun z => hne (erase_inj (asc_nodup hR) (List.mem_range.mp hk) hb (z.trans hbe.symm))
  · intro hf
    rw [e, sum_zero]
    intro k hk
    rw [if_neg]
    exact fun z => hf (fcs_iff.mpr ⟨k, List.mem_range.mp hk, z⟩)
theorem Paired.no_bnd {L : List (List Int)} {c : List Int → Bool} (h : Paired L c) : chT ((L.map fun r => (r, pm (c r))).flatMap bndQ) = [] := by
  unfold chT
  rw [List.filter_eq_nil_iff.mpr]
  · rfl
  intro f hf
  have hk := (List.mergeSort_perm _ _).mem_iff.mp hf
  obtain ⟨q, hq, hqe⟩ := ((sumL_ok _).2.2.2 f).mp hk
  obtain ⟨t, ht, hq⟩ := List.mem_flatMap.mp hq
  obtain ⟨R, hR, rfl⟩ := List.mem_map.mp ht
  rw [bndQ_eq] at hq
  obtain ⟨a, ha, rfl⟩ := List.mem_map.mp hq
  have ha := List.mem_range.mp ha
  have hRa := h.asc R hR
  have hqe : sortI (R.eraseIdx a) = f := hqe
  rw [sortI_self (hRa.sublist (List.eraseIdx_sublist _ _))] at hqe
  obtain ⟨S, s1, b, s2, s3, s4, s5, s6⟩ := h.two R hR a ha
  rw [decide_eq_true_iff, Classical.not_not, List.flatMap_map, totS_flat, sum_two h.nd hR s1 (fun z => s3 z.symm) fun T hT h1 h2 => ?_, (tot_bnd hRa _).1 a ha hqe, (tot_bnd (h.asc S s1) _).1 b s2 (s4.trans hqe)]
  · exact pm_add_not _ _ s5
  · refine (tot_bnd (h.asc T hT) _).2 fun z => ?_
    rcases s6 T hT (by rw [hqe]; exact z) with q | q
    · exact h1 q
    · exact h2 q
/-- a chain with one term for each room of L -/
theorem chT_rooms {X : List (List Int × Int)} {L : List (List Int)} {c : List Int → Bool} (hn : L.Nodup) (hk : ∀ r, (∃ q ∈ X, sortI q.1 = r) ↔ r ∈ L) (ht : ∀ r ∈ L, totS X r = pm (c r)) : chT X = (sortR L).map fun r => (r, pm (c r)) := by
  obtain ⟨_, _, c3, c4⟩ := sumL_ok X
  have hp : ((sumL X).map (·.1)).Perm L := (List.perm_ext_iff_of_nodup c3 hn).mpr fun r => (c4 r).trans (hk r)
  unfold chT
  rw [sortR_congr hp, List.filter_eq_self.mpr]
  · refine List.map_congr_left fun r hr => ?_
    rw [ht r ((sortR_perm L).mem_iff.mp hr)]
  · intro r hr
    rw [ht r ((sortR_perm L).mem_iff.mp hr)]
    exact decide_eq_true (pm_ne _)
section
variable {os : List (List Int)} {d v : Nat}
/-- the terms of the unbeaten chain -/
def ucT (os : List (List Int)) (d v : Nat) : List (List Int × Int) := (sortR (roomsU os d v)).map fun r => (r, pm (cb os d v r))
def ucL (os : List (List Int)) (d v : Nat) : List (List Int × Int) := (ubR os d v).map (fun r => (leastR (fulls os d v) r, (1 : Int))) ++ [(irg v d, -1)]
theorem cb_own : cb os d v (irg v d) = true := by unfold cb; rw [if_pos rfl]
theorem ucL_ok (ho : Ords os d v) : chT (ucL os d v) = ucT os d v := by
  let t : List Int → List Int × Int := fun R => if R = irg v d then (irg v d, -1) else (leastR (fulls os d v) R, 1)
  have et : ucL os d v = (roomsU os d v).map t := by
    unfold ucL roomsU
    rw [List.map_append]
    refine congr (congrArg _ (List.map_congr_left fun r hr => ?_)) ?_
    · show _ = if r = irg v d then _ else _
      rw [if_neg fun z : r = irg v d => own_not ho (z ▸ hr)]
    · show _ = [if irg v d = irg v d then _ else _]
      rw [if_pos rfl]
  have es : ∀ R ∈ roomsU os d v, sortI (t R).1 = R ∧ (t R).2 * sg (t R).1 = pm (cb os d v R) := fun R hR => by
    show sortI (if R = irg v d then _ else _ : List Int × Int).1 = R ∧ (if R = irg v d then _ else _ : List Int × Int).2 * sg (if R = irg v d then _ else _ : List Int × Int).1 = _
    by_cases c : R = irg v d
    · rw [if_pos c, c, cb_own]
      refine ⟨sortI_self (irg_asc _ _), ?_⟩
      show -1 * sg (irg v d) = -1
      rw [sg_asc (irg_asc _ _)]
      rfl
    · have hU := ((mem_roomsU ho).mp hR).resolve_right c
      rw [if_neg c]
      refine ⟨sortI_unique (least_perm ho ((mem_ub ho).mpr hU)).symm (hU.1.imp fun h => Int.le_of_lt h), ?_⟩
      show 1 * sg (leastR (fulls os d v) R) = _
      rw [Int.one_mul]
      unfold cb sg
      rw [if_neg c]
  unfold ucT
  refine chT_rooms (roomsU_nodup ho) (fun r => ?_) fun r hr => ?_
  · rw [et]
    constructor
    · rintro ⟨q, hq, rfl⟩
      obtain ⟨R, hR, rfl⟩ := List.mem_map.mp hq
      rw [(es R hR).1]
      exact hR
    · intro hr
      exact ⟨t r, List.mem_map.mpr ⟨r, hr, rfl⟩, (es r hr).1⟩
  · rw [et, totS_map, sum_one (A := r) (roomsU_nodup ho) hr, totS_one, if_pos (es r hr).1, (es r hr).2]
    intro R hR hne
    rw [totS_one, if_neg]
    rw [(es R hR).1]
    exact hne
theorem terms_ok (ho : Ords os d v) {M : List (List Int)} (hM : M.Perm (ubR os d v)) : termsF (fulls os d v) M (irg v d) = ucT os d v := by
  unfold termsF ucT
  refine sortT_rooms (c := fun r => pm (cb os d v r)) (roomsU_nodup ho) ?_
  have e : (roomsU os d v).map (fun r => (r, pm (cb os d v r))) = (ubR os d v).map (fun r => (r, sg (leastR (fulls os d v) r))) ++ [(irg v d, -1)] := by
    unfold roomsU
    rw [List.map_append]
    refine congr (congrArg _ (List.map_congr_left fun r hr => ?_)) ?_
    · have c : r ≠ irg v d := fun z => own_not ho (z ▸ hr)
      unfold cb sg
      rw [if_neg c]
    · show [(irg v d, pm (cb os d v (irg v d)))] = _
      rw [cb_own]
      rfl
  rw [e]
  exact ((hM.map _).cons _).trans (List.perm_append_singleton _ _).symm
theorem pm_abs (b : Bool) : absI (pm b) = 1 := by cases b <;> rfl
theorem ucT_odd : ((ucT os d v).filter fun q => decide (q.2 % 2 = 1)).map (·.1) = sortR (roomsU os d v) := by
  unfold ucT
  rw [List.filter_eq_self.mpr]
  · rw [List.map_map]
    exact List.map_id _
  · intro q hq
    obtain ⟨r, _, rfl⟩ := List.mem_map.mp hq
    show decide (pm _ % 2 = 1) = true
    cases cb os d v r <;> rfl
theorem uc_paired (ho : Ords os d v) : Paired (sortR (roomsU os d v)) (cb os d v) := (rooms_paired ho).perm (sortR_perm _).symm
theorem ucT_bnd (ho : Ords os d v) : chT ((ucT os d v).flatMap bndQ) = [] := (uc_paired ho).no_bnd
end
end K84
/-! part MathH -/
set_option Elab.async false
set_option linter.all false
set_option maxRecDepth 100000
set_option maxHeartbeats 1000000
namespace K84
open PySem PySem.Spec PyProof.Rows L2 Evl FX M84
/-! ### new names for the things -/
def phi (o : List Int) (d v : Nat) (p : Int) : Int := (o ++ irg v d).getD p.toNat 0
structure Ren (f : Int → Int) (d v : Nat) : Prop where
  th : ∀ p : Int, 0 ≤ p → p < v → 0 ≤ f p ∧ f p < v
  own : ∀ p : Int, (v : Int) ≤ p → p < v + d → f p = p
  inj : ∀ p q, Pl d v p → Pl d v q → f p = f q → p = q
  sur : ∀ q, Pl d v q → ∃ p, Pl d v p ∧ f p = q
theorem phi_at {o : List Int} {d v : Nat} (ho : isOrd v o) {p : Int} (hp : Pl d v p) : (o ++ irg v d)[p.toNat]? = some (phi o d v p) := by
  have hl : o.length = v := by rw [ho.length_eq, irg_len]
  have : p.toNat < (o ++ irg v d).length := by
    rw [List.length_append, hl, irg_len]
    have := hp.1
    have := hp.2
    omega
  unfold phi
  rw [List.getD_eq_getElem?_getD, List.getElem?_eq_getElem this]
  rfl
theorem phi_ren {o : List Int} {d v : Nat} (ho : isOrd v o) : Ren (phi o d v) d v := by
  have hl : o.length = v := by rw [ho.length_eq, irg_len]
  have hn : (o ++ irg v d).Nodup := List.nodup_append.mpr ⟨ho.nodup_iff.mpr (irg_nodup _ _), irg_nodup _ _, fun a ha b hb z => by
    have := mem_irg.mp (ho.mem_iff.mp ha)
    have := mem_irg.mp hb
    omega⟩
  refine ⟨fun p h0 h1 => ?_, fun p h0 h1 => ?_, fun p q hp hq e => ?_, fun q hq => ?_⟩
  · have h := phi_at (d := d) ho (p := p) ⟨h0, by omega⟩
    rw [List.getElem?_append_left (by omega)] at h
    have := mem_irg.mp (ho.mem_iff.mp (List.mem_of_getElem? h))
    omega
  · have h := phi_at (d := d) ho (p := p) ⟨by omega, by omega⟩
    rw [List.getElem?_append_right (by omega), irg_get (by omega), hl] at h
    have := Option.some.inj h
    omega
  · have h1 := phi_at ho hp
    have h2 := phi_at ho hq
    rw [← e] at h2
    obtain ⟨a1, b1⟩ := List.getElem?_eq_some_iff.mp h1
    obtain ⟨a2, b2⟩ := List.getElem?_eq_some_iff.mp h2
    have := (List.getElem_inj (h₀ := a1) (h₁ := a2) hn).mp (b1.trans b2.symm)
    have := hp.1
    have := hq.1
    omega
  · have hm : q ∈ o ++ irg v d := by
      by_cases c : q < v
      · exact List.mem_append_left _ (ho.mem_iff.mpr (mem_irg.mpr ⟨hq.1, by omega⟩))
      · exact List.mem_append_right _ (mem_irg.mpr ⟨by omega, by have := hq.2; omega⟩)
    obtain ⟨i, hi, e⟩ := List.mem_iff_getElem.mp hm
    rw [List.length_append, hl, irg_len] at hi
    refine ⟨(i : Nat), ⟨by omega, by omega⟩, ?_⟩
    have h := phi_at (d := d) ho (p := ((i : Nat) : Int)) ⟨by omega, by omega⟩
    rw [Int.toNat_natCast, List.getElem?_eq_getElem (by rw [List.length_append, hl, irg_len]; exact hi), e] at h
    exact (Option.some.inj h).symm
theorem Ren.pl {f : Int → Int} {d v : Nat} (h : Ren f d v) {p : Int} (hp : Pl d v p) : Pl d v (f p) := by
  obtain ⟨h1, h2⟩ := hp
  by_cases c : p < v
  · obtain ⟨a, b⟩ := h.th p h1 c
    exact ⟨a, by omega⟩
  · rw [h.own p (by omega) (by omega)]
    exact ⟨h1, h2⟩
theorem idx_map {f : Int → Int} {p : Int} : ∀ {l : List Int}, (∀ q ∈ l, f q = f p → q = p) → (l.map f).idxOf (f p) = l.idxOf p
  | [], _ => rfl
  | x :: l, h => by
    rw [List.map_cons]
    by_cases c : x = p
    · rw [c, List.idxOf_cons_self, List.idxOf_cons_self]
    · rw [idx_ne c, idx_ne fun z => c (h x List.mem_cons_self z), idx_map fun q hq => h q (List.mem_cons_of_mem _ hq)]
section
variable {os : List (List Int)} {d v : Nat} {f : Int → Int}
theorem ren_ords (ho : Ords os d v) (hf : Ren f d v) : Ords (os.map (·.map f)) d v := by
  refine ⟨by rw [List.length_map, ho.len], ho.d1, ho.d4, ho.v1, ho.v8, fun o h => ?_⟩
  obtain ⟨q, hq, rfl⟩ := List.mem_map.mp h
  have hp := ho.ord q hq
  have hm : ∀ x, x ∈ q ↔ 0 ≤ x ∧ x < v := fun x => (hp.mem_iff.trans mem_irg).trans (by omega)
  have hn := hp.nodup_iff.mpr (irg_nodup _ _)
  have hn2 : (q.map f).Nodup := List.pairwise_map.mpr (hn.imp_of_mem fun {a b} ha hb hab e => hab (by
    have := (hm a).mp ha
    have := (hm b).mp hb
    exact hf.inj a b ⟨by omega, by omega⟩ ⟨by omega, by omega⟩ e))
  refine perm_of_sub hn2 (fun x hx => ?_) (by rw [irg_len, List.length_map, ho.olen hq]; exact Nat.le_refl _)
  obtain ⟨y, hy, rfl⟩ := List.mem_map.mp hx
  obtain ⟨a, b⟩ := (hm y).mp hy
  obtain ⟨a, b⟩ := hf.th y a b
  exact mem_irg.mpr (by omega)
theorem ren_full (ho : Ords os d v) (hf : Ren f d v) : fulls (os.map (·.map f)) d v = (fulls os d v).map (·.map f) := by
  apply List.ext_getElem?
  intro k
  rw [List.getElem?_map]
  unfold fulls
  rw [List.getElem?_mapIdx, List.getElem?_mapIdx, List.getElem?_map]
  cases e : os[k]? with
  | none => rfl
  | some o =>
    have hk : k < d := by rw [← ho.len]; exact (List.getElem?_eq_some_iff.mp e).1
    show some (fullRow d v k (o.map f)) = some ((fullRow d v k o).map f)
    congr 1
    unfold fullRow
    rw [List.map_append, List.map_append, List.map_map, List.map_cons, List.map_nil, hf.own _ (by omega) (by omega)]
    congr 1
    refine List.map_congr_left fun j hj => ?_
    have := List.mem_range.mp (List.mem_filter.mp hj).1
    exact (hf.own _ (by omega) (by omega)).symm
theorem ren_rho (ho : Ords os d v) (hf : Ren f d v) {k : Nat} (hk : k < d) {p : Int} (hp : Pl d v p) : rho (os.map (·.map f)) d v k (f p) = rho os d v k p := by
  unfold rho
  obtain ⟨o, _, _, e, g⟩ := row_at ho hk
  rw [ren_full ho hf, List.getD_eq_getElem?_getD, List.getElem?_map, g, e]
  show ((fullRow d v k o).map f).idxOf (f p) = _
  refine idx_map fun q hq h => hf.inj q p (pl_irg.mpr ?_) hp h
  have := full_perm ho (row_mem ho hk)
  rw [e] at this
  exact this.mem_iff.mp hq
/-- the image of a room -/
def img (f : Int → Int) (R : List Int) : List Int := sortI (R.map f)
theorem img_un (ho : Ords os d v) (hf : Ren f d v) {R : List Int} (h : isUn os d v R) : isUn (os.map (·.map f)) d v (img f R) := by
  obtain ⟨h1, h2, h3, h4⟩ := h
  have hn : (R.map f).Nodup := List.pairwise_map.mpr ((asc_nodup h1).imp_of_mem fun {a b} ha hb hab e => hab (hf.inj a b (h2 a ha) (h2 b hb) e))
  have hm : ∀ x, x ∈ img f R ↔ ∃ p ∈ R, f p = x := fun x => by
    unfold img
    rw [(sortI_perm _).mem_iff, List.mem_map]
  refine ⟨sortI_asc hn, fun x hx => ?_, ?_, fun y hy => ?_⟩
  · obtain ⟨p, hp, rfl⟩ := (hm x).mp hx
    exact hf.pl (h2 p hp)
  · unfold img
    rw [(sortI_perm _).length_eq, List.length_map, h3]
  · obtain ⟨p, hp, rfl⟩ := hf.sur y hy
    obtain ⟨k, hk, hq⟩ := h4 p hp
    refine ⟨k, hk, fun z hz => ?_⟩
    obtain ⟨q, hqm, rfl⟩ := (hm z).mp hz
    rw [ren_rho ho hf hk hp, ren_rho ho hf hk (h2 q hqm)]
    exact hq q hqm
theorem pre_un (ho : Ords os d v) (hf : Ren f d v) {S : List Int} (h : isUn (os.map (·.map f)) d v S) : ∃ R, isUn os d v R ∧ img f R = S := by
  obtain ⟨h1, h2, h3, h4⟩ := h
  have hm : ∀ p, p ∈ (irg 0 (v + d)).filter (fun p => decide (f p ∈ S)) ↔ Pl d v p ∧ f p ∈ S := fun p => by rw [List.mem_filter, decide_eq_true_iff, ← pl_irg]
  have ha : ((irg 0 (v + d)).filter fun p => decide (f p ∈ S)).Pairwise (· < ·) := (irg_asc _ _).sublist List.filter_sublist
  generalize (irg 0 (v + d)).filter (fun p => decide (f p ∈ S)) = R at hm ha
  have hn : (R.map f).Nodup := List.pairwise_map.mpr ((asc_nodup ha).imp_of_mem fun {a b} ha hb hab e => hab (hf.inj a b ((hm a).mp ha).1 ((hm b).mp hb).1 e))
  have hp : (R.map f).Perm S := (List.perm_ext_iff_of_nodup hn (asc_nodup h1)).mpr fun x => by
    rw [List.mem_map]
    constructor
    · rintro ⟨p, hp, rfl⟩
      exact ((hm p).mp hp).2
    · intro hx
      obtain ⟨p, hp, rfl⟩ := hf.sur x (h2 x hx)
      exact ⟨p, (hm p).mpr ⟨hp, hx⟩, rfl⟩
  refine ⟨R, ⟨ha, fun p hp => ((hm p).mp hp).1, by rw [← h3, ← hp.length_eq, List.length_map], fun p hpl => ?_⟩, sortI_unique hp (h1.imp fun h => Int.le_of_lt h)⟩
  obtain ⟨k, hk, hq⟩ := h4 (f p) (hf.pl hpl)
  refine ⟨k, hk, fun q hqm => ?_⟩
  have hqP := (hm q).mp hqm
  have := hq (f q) hqP.2
  rwa [ren_rho ho hf hk hpl, ren_rho ho hf hk hqP.1] at this
theorem img_inj (hf : Ren f d v) {R S : List Int} (h1 : R.Pairwise (· < ·)) (h2 : S.Pairwise (· < ·)) (p1 : AllPl d v R) (p2 : AllPl d v S) (e : img f R = img f S) : R = S := by
  have half : ∀ {R S : List Int}, AllPl d v R → AllPl d v S → img f R = img f S → ∀ x ∈ R, x ∈ S := fun {R S} p1 p2 e x hx => by
    have : f x ∈ img f S := by
      rw [← e]
      unfold img
      exact (sortI_perm _).mem_iff.mpr (List.mem_map.mpr ⟨x, hx, rfl⟩)
    unfold img at this
    obtain ⟨y, hy, he⟩ := List.mem_map.mp ((sortI_perm _).mem_iff.mp this)
    rw [← hf.inj y x (p2 y hy) (p1 x hx) he]
    exact hy
  exact asc_eq h1 h2 fun x => ⟨half p1 p2 e x, half p2 p1 e.symm x⟩
theorem ren_ub (ho : Ords os d v) (hf : Ren f d v) : ((ubR os d v).map (img f)).Perm (ubR (os.map (·.map f)) d v) := by
  have ho2 := ren_ords ho hf
  have hn : ((ubR os d v).map (img f)).Nodup := List.pairwise_map.mpr ((ub_nodup os d v).imp_of_mem fun {R S} hR hS hne e => hne (by
    obtain ⟨a1, a2, _⟩ := (mem_ub ho).mp hR
    obtain ⟨b1, b2, _⟩ := (mem_ub ho).mp hS
    exact img_inj hf a1 b1 a2 b2 e))
  refine (List.perm_ext_iff_of_nodup hn (ub_nodup _ d v)).mpr fun S => ?_
  rw [mem_ub ho2, List.mem_map]
  constructor
  · rintro ⟨R, hR, rfl⟩
    exact img_un ho hf ((mem_ub ho).mp hR)
  · intro h
    obtain ⟨R, hR, e⟩ := pre_un ho hf h
    exact ⟨R, (mem_ub ho).mpr hR, e⟩
end
end K84
/-! part D13 -/
set_option Elab.async false
set_option linter.all false
set_option maxRecDepth 100000
set_option maxHeartbeats 4000000
namespace K84
open PySem PySem.Spec PyProof.Rows L2 Evl FX
variable {W : Wd}
theorem ub_len {os : List (List Int)} {d v : Nat} (ho : Ords os d v) : (ubR os d v).length ≤ 4096 := by
  have h2 := ho.d4
  have h4 := ho.v8
  unfold ubR
  exact Nat.le_trans (List.length_filter_le _ _) (subs_len (by rw [irg_len]; omega) (by rw [irg_len]; omega))
theorem roomsU_len {os : List (List Int)} {d v : Nat} (ho : Ords os d v) : (roomsU os d v).length ≤ 4097 := by
  unfold roomsU
  rw [List.length_append]
  exact Nat.succ_le_succ (ub_len ho)
theorem roomsU_room {os : List (List Int)} {d v : Nat} (ho : Ords os d v) {R : List Int} (h : R ∈ roomsU os d v) : isRoom (v + d) d R := by
  obtain ⟨h1, h2, h3⟩ := roomsU_ok ho h
  exact ⟨h3, fun x hx => by have := h2 x hx; unfold M84.Pl at this; omega, h1⟩
theorem sc_ubook : FnScope ["orders", "number", "things"] ["orders"] (defScope (top 33)) := ⟨rfl, rfl, rfl, by decide +kernel, rfl, by decide +kernel, by decide +kernel⟩
def Rubook (C : Addr) : List Dat → Sl → Prop := fun ds s => ∃ (t : Bool) (os : List (List Int)) (d v : Nat), ds = [ordD t os] ∧ Ords os d v ∧ s = .dat (.obj C (bookFs (v + d) d (sortR (roomsU os d v))))
theorem ok_ubook {CB : Addr} (T : Bi W) (C1 : Fn W "check_orders" 1 1 Rcheck) (C2 : Fn W "unbeaten_rooms" 6 1 Rub) (C3 : Fn W "own_places" 2 1 Rown) (Cb : Ct W "Book" CB 2 3 Rbook) (D : HasDef W "unbeaten_book" 33) : Fn W "unbeaten_book" 7 1 (Rubook CB) := by
  refine fn_mk D sc_ubook rfl (fun _ _ _ _ _ _ us hl => match us, hl with | [_], _ => rfl) fun f cdv A outer s0 H E hF ds r hR _ => ?_
  obtain ⟨t, os, d, v, rfl, ho, rfl⟩ := hR
  have h1 := ho.d1
  have h2 := ho.d4
  have h3 := ho.v1
  have h4 := ho.v8
  have hl := ub_len ho
  refine ⟨_, ss_cons (s_setT hF (x_call C1 hF (by decide) (xa_cons (xv 0 hF) xa_nil) rfl ⟨t, os, d, v, rfl, ho, rfl⟩) (gs_cons (g_name 1 hF) (gs_cons (g_name 2 hF) gs_nil)))
    (ss_one (s_ret (x_make Cb hF (by decide) (xa_cons (XD.is (da := nD (v + d)) (x_add (xv 2 hF) (xv 1 hF)) (by congr 1)) (xa_cons (xv 1 hF) (xa_cons (XD.is (da := rmsD (roomsU os d v)) (XE.pub (o_catL hF (q_mL (x_call C2 hF (by decide) (xa_cons (xv 0 hF) xa_nil) rfl ⟨t, os, d, v, rfl, ho, rfl⟩)) (q_mL (o_lst (xa_cons (x_call C3 hF (by decide) (xa_cons (xv 0 hF) xa_nil) rfl ⟨t, os, d, v, rfl, ho, rfl⟩) xa_nil))) ?_)) ?_) xa_nil))) rfl
      ⟨v + d, d, roomsU os d v, rfl, by omega, by omega, h1, by omega, by have := roomsU_len ho; omega, fun r hr => roomsU_room ho hr, roomsU_nodup ho, rfl⟩))), .rt _⟩
  · rw [List.length_map]
    show _ + 1 ≤ _
    omega
  · unfold roomsU
    show _ = Dat.sq false (List.map tI (_ ++ _))
    rw [List.map_append]
    rfl
theorem sc_uchain : FnScope ["orders", "number", "things", "terms", "room"] ["orders"] (defScope (top 34)) := ⟨rfl, rfl, rfl, by decide +kernel, rfl, by decide +kernel, by decide +kernel⟩
def Ruchain (C : Addr) : List Dat → Sl → Prop := fun ds s => ∃ (t : Bool) (os : List (List Int)) (d v : Nat), ds = [ordD t os] ∧ Ords os d v ∧ s = .dat (.obj C (chFs (v + d) d (ucT os d v)))
theorem ok_uchain {CC : Addr} (T : Bi W) (C1 : Fn W "check_orders" 1 1 Rcheck) (C2 : Fn W "unbeaten_rooms" 6 1 Rub) (C3 : Fn W "own_places" 2 1 Rown) (C4 : Fn W "least_row" 3 2 Rleast) (Cc : Ct W "Chain" CC 2 3 Rchain) (D : HasDef W "unbeaten_chain" 34) : Fn W "unbeaten_chain" 7 1 (Ruchain CC) := by
  refine fn_mk D sc_uchain rfl (fun _ _ _ _ _ _ us hl => match us, hl with | [_], _ => rfl) fun f cdv A outer s0 H E hF ds r hR _ => ?_
  obtain ⟨t, os, d, v, rfl, ho, rfl⟩ := hR
  have h1 := ho.d1
  have h2 := ho.d4
  have h3 := ho.v1
  have h4 := ho.v8
  have hl := ub_len ho
  refine ⟨_, ss_cons (s_setT hF (x_call C1 hF (by decide) (xa_cons (xv 0 hF) xa_nil) rfl ⟨t, os, d, v, rfl, ho, rfl⟩) (gs_cons (g_name 1 hF) (gs_cons (g_name 2 hF) gs_nil)))
    (ss_cons (s_setLcm 3 [4] [("room", 4)] (defScope (top 34)) (ubR os d v) tI (fun r => tmD (leastR (fulls os d v) r, 1)) hF (i_sq (t := false) hF (XE.pub (x_call C2 hF (by decide) (xa_cons (xv 0 hF) xa_nil) rfl ⟨t, os, d, v, rfl, ho, rfl⟩))) (by omega)
      fun hB r hr => ⟨_, g_name 4 hB, x_tup (xa_cons (x_call C4 hB (by decide) (xa_cons (xv 0 hB) (xa_cons (xv 4 hB) xa_nil)) rfl ⟨t, os, d, v, r, rfl, ho, fun row hrow => room_in ho (List.mem_filter.mp hr).1 hrow, rfl⟩) (xa_cons x_int xa_nil))⟩)
    (ss_one (s_ret (x_make Cc hF (by decide) (xa_cons (XD.is (da := nD (v + d)) (x_add (xv 2 hF) (xv 1 hF)) (by congr 1)) (xa_cons (xv 1 hF) (xa_cons (XD.is (da := .sq false ((ucL os d v).map tmD)) (XE.pub (o_catL hF (q_var 3 hF) (q_mL (o_lst (xa_cons (x_tup (xa_cons (x_call C3 hF (by decide) (xa_cons (xv 0 hF) xa_nil) rfl ⟨t, os, d, v, rfl, ho, rfl⟩) (xa_cons (x_neg x_int) xa_nil))) xa_nil))) ?_)) ?_) xa_nil))) rfl
      ⟨v + d, d, ucL os d v, rfl, by omega, by omega, by omega, ?_, ?_, by rw [ucL_ok ho]⟩)))), .rt _⟩
  · rw [List.length_map]
    show _ + 1 ≤ _
    omega
  · unfold ucL
    show _ = Dat.sq false (List.map tmD (_ ++ _))
    rw [List.map_append, List.map_map]
    rfl
  · unfold ucL
    rw [List.length_append, List.length_map]
    show _ + 1 ≤ _
    omega
  · intro q hq
    unfold ucL at hq
    rcases List.mem_append.mp hq with hq | hq
    · obtain ⟨r, hr, rfl⟩ := List.mem_map.mp hq
      have hp := least_perm ho hr
      obtain ⟨a, b, c⟩ := roomsU_room ho (List.mem_append_left _ hr)
      exact ⟨by show (leastR _ _).length = _; rw [← hp.length_eq, a], fun x hx => b x (hp.mem_iff.mpr hx), hp.nodup_iff.mp (asc_nodup c)⟩
    · rw [List.mem_singleton.mp hq]
      exact ⟨irg_len _ _, fun x hx => by have := mem_irg.mp hx; omega, irg_nodup _ _⟩
theorem same_sq {n : Nat} {t : Bool} {xs : List Dat} (h : ∀ x ∈ xs, Same n x x) (hl : xs.length ≤ 100000) : Same (n + 1) (.sq t xs) (.sq t xs) :=
  .sq rfl hl fun i a d h1 h2 => by
    rw [h1] at h2
    cases h2
    exact h a (List.mem_of_getElem? h1)
theorem same_ints {n : Nat} {t : Bool} {ns : List Int} (h : ns.length ≤ 100000) : Same (n + 1) (sqI t ns) (sqI t ns) := same_sq (fun x hx => by
  obtain ⟨i, _, rfl⟩ := List.mem_map.mp hx
  exact .int i) (by rw [List.length_map]; exact h)
theorem same_rooms {n : Nat} {t u : Bool} {rs : List (List Int)} (h : rs.length ≤ 100000) (h2 : ∀ r ∈ rs, r.length ≤ 100000) : Same (n + 2) (.sq t (rs.map (sqI u))) (.sq t (rs.map (sqI u))) := same_sq (fun x hx => by
  obtain ⟨r, hr, rfl⟩ := List.mem_map.mp hx
  exact same_ints (h2 r hr)) (by rw [List.length_map]; exact h)
theorem same_tms {n : Nat} {t : Bool} {ts : List (List Int × Int)} (h : ts.length ≤ 100000) (h2 : ∀ q ∈ ts, q.1.length ≤ 100000) : Same (n + 3) (.sq t (ts.map tmD)) (.sq t (ts.map tmD)) := same_sq (fun x hx => by
  obtain ⟨q, hq, rfl⟩ := List.mem_map.mp hx
  exact same_sq (fun y hy => by
    rcases List.mem_cons.mp hy with rfl | hy
    · exact same_ints (h2 q hq)
    · rw [List.mem_singleton.mp hy]
      exact .int _) (Nat.le_of_ble_eq_true rfl)) (by rw [List.length_map]; exact h)
theorem same_three {n : Nat} {a b : Int} {c : Dat} (h : Same n c c) : Same (n + 1) (.sq true [.int a, .int b, c]) (.sq true [.int a, .int b, c]) := same_sq (fun x hx => by
  simp only [List.mem_cons, List.not_mem_nil, or_false] at hx
  rcases hx with rfl | rfl | rfl
  · exact .int _
  · exact .int _
  · exact h) (Nat.le_of_ble_eq_true rfl)
theorem ucT_mem {os : List (List Int)} {d v : Nat} (ho : Ords os d v) {q : List Int × Int} (h : q ∈ ucT os d v) : isRoom (v + d) d q.1 ∧ absI q.2 = 1 := by
  unfold ucT at h
  obtain ⟨r, hr, rfl⟩ := List.mem_map.mp h
  exact ⟨roomsU_room ho ((sortR_perm _).mem_iff.mp hr), pm_abs _⟩
theorem ucT_len {os : List (List Int)} {d v : Nat} (ho : Ords os d v) : (ucT os d v).length ≤ 4097 := by
  unfold ucT
  rw [List.length_map, (sortR_perm _).length_eq]
  exact roomsU_len ho
theorem ucT_rooms {os : List (List Int)} {d v : Nat} (ho : Ords os d v) : ((ucT os d v).map (·.1)).Nodup := by
  unfold ucT
  rw [List.map_map, show ((fun q : List Int × Int => q.1) ∘ fun r => (r, M84.pm (cb os d v r))) = id from rfl, List.map_id]
  exact (sortR_perm _).nodup_iff.mpr (roomsU_nodup ho)
theorem sc_bookr : FnScope ["orders", "n", "d", "whole", "terms", "book", "chain"] ["orders", "n", "d", "whole", "terms"] (defScope (top 52)) := ⟨rfl, rfl, rfl, by decide +kernel, rfl, by decide +kernel, by decide +kernel⟩
def Rbookr : List Dat → Sl → Prop := fun ds s => ∃ (t : Bool) (os : List (List Int)) (d v : Nat), ds = [ordD t os, nD (v + d), nD d, rmsD (sortR (roomsU os d v)), .sq false ((ucT os d v).map tmD)] ∧ Ords os d v ∧ s = .dat (.bl true)
theorem ok_bookr {CB CC : Addr} (T : Bi W) (B : BkF W CB) (Ch : ChF W CC) (Cs : Fn W "_law_same" 5 2 (Rsame 4)) (C1 : Fn W "unbeaten_book" 7 1 (Rubook CB)) (C2 : Fn W "unbeaten_chain" 7 1 (Ruchain CC)) (Ct2 : Pt W CB "is_two_each" 3 (Rbtwo CB)) (Cev : Pt W CB "is_even" 4 (Rbeven CB))
    (Csg : Fn W "is_signed" 5 1 (Rsigned CC)) (Cln : Mt W CC "__len__" 1 1 (Rclen CC)) (Cbn : Mt W CC "boundary" 4 1 (Rcbnd CC)) (Cod : Mt W CC "odd_book" 4 1 (Rcodd CC CB)) (Ceq : Mt W CB "__eq__" 1 2 (Rbeq CB)) (D : HasDef W "_law_book_right" 52) : Fn W "_law_book_right" 8 5 Rbookr := by
  refine fn_mk D sc_bookr rfl (fun _ _ _ _ _ _ us hl => match us, hl with | [_, _, _, _, _], _ => rfl) fun f cdv A outer s0 H E hF ds r hR _ => ?_
  obtain ⟨t, os, d, v, rfl, ho, rfl⟩ := hR
  have h1 := ho.d1
  have h2 := ho.d4
  have h3 := ho.v1
  have h4 := ho.v8
  obtain ⟨z, rfl⟩ : ∃ z, d = z + 1 := ⟨d - 1, by omega⟩
  have hrl := roomsU_len ho
  have hsl : (sortR (roomsU os (z + 1) v)).length ≤ 4097 := by rw [(sortR_perm _).length_eq]; exact hrl
  have hsr : ∀ r ∈ sortR (roomsU os (z + 1) v), isRoom (v + (z + 1)) (z + 1) r := fun r hr => roomsU_room ho ((sortR_perm _).mem_iff.mp hr)
  have hul := ucT_len ho
  have hP := uc_paired ho
  have hts : ∀ q ∈ ucT os (z + 1) v, isTerm (v + (z + 1)) (z + 1) q := fun q hq => by
    obtain ⟨⟨a, b, c⟩, _⟩ := ucT_mem ho hq
    exact ⟨a, b, asc_nodup c⟩
  refine ⟨_, ss_cons (s_set 5 hF (x_call C1 hF (by decide) (xa_cons (xv 0 hF) xa_nil) rfl ⟨t, os, z + 1, v, rfl, ho, rfl⟩))
    (ss_cons (s_ifN (XB.is (b_not (b_val (x_call Cs hF (by decide) (xa_cons (x_tup (xa_cons (x_fld hF (xv 5 hF) B.cl B.np rfl) (xa_cons (x_fld hF (xv 5 hF) B.cl B.nz rfl) (xa_cons (x_fld hF (xv 5 hF) B.cl B.nr rfl) xa_nil)))) (xa_cons (x_tup (xa_cons (xv 1 hF) (xa_cons (xv 2 hF) (xa_cons (x_tupL T.tuple hF (q_of (xv 3 hF))) xa_nil)))) xa_nil)) rfl
      ⟨_, _, rfl, same_three (same_rooms (u := true) (by omega) fun r hr => by rw [(hsr r hr).1]; omega), rfl⟩))) rfl))
    (ss_cons (s_ifN (XB.is (b_not (b_val (x_call Cs hF (by decide) (xa_cons (x_tup (xa_cons (x_prop Ct2 hF (by decide) (xv 5 hF) B.cl ⟨v + (z + 1), z + 1, sortR (roomsU os (z + 1) v), rfl, by omega, fun r hr => by rw [(hsr r hr).1]; omega, rfl⟩) (xa_cons (x_prop Cev hF (by decide) (xv 5 hF) B.cl ⟨v + (z + 1), z + 1, sortR (roomsU os (z + 1) v), rfl, by omega, by omega, fun r hr => ⟨(hsr r hr).1, by rw [(hsr r hr).1]; omega⟩, rfl⟩) xa_nil))) (xa_cons (x_tup (xa_cons x_bl (xa_cons x_bl xa_nil))) xa_nil)) rfl
      ⟨_, _, rfl, ?_, rfl⟩))) rfl))
    (ss_cons (s_set 6 hF (x_call C2 hF (by decide) (xa_cons (xv 0 hF) xa_nil) rfl ⟨t, os, z + 1, v, rfl, ho, rfl⟩))
    (ss_cons (s_ifN (XB.is (b_not (b_val (x_call Cs hF (by decide) (xa_cons (x_tup (xa_cons (x_fld hF (xv 6 hF) Ch.cl Ch.np rfl) (xa_cons (x_fld hF (xv 6 hF) Ch.cl Ch.nd rfl) (xa_cons (x_fld hF (xv 6 hF) Ch.cl Ch.nt rfl) xa_nil)))) (xa_cons (x_tup (xa_cons (xv 1 hF) (xa_cons (xv 2 hF) (xa_cons (x_tupL T.tuple hF (q_of (xv 4 hF))) xa_nil)))) xa_nil)) rfl
      ⟨_, _, rfl, same_three (same_tms (by omega) fun q hq => by rw [(ucT_mem ho hq).1.1]; omega), rfl⟩))) rfl))
    (ss_cons (s_ifN (XB.is (b_w (w_or (b_not (b_val (x_call Cs hF (by decide) (xa_cons (x_call Csg hF (by decide) (xa_cons (xv 6 hF) xa_nil) rfl ⟨v + (z + 1), z, ucT os (z + 1) v, rfl, by omega, by omega, by omega, by omega, hts, fun q hq => (ucT_mem ho hq).2, ucT_bnd ho, rfl⟩) (xa_cons x_bl xa_nil)) rfl ⟨_, _, rfl, .bl true, rfl⟩)))
      fun _ => w_or1 (b_not (b_val (x_call Cs hF (by decide) (xa_cons (x_lenOwn (n := 0) Cln T.len hF (by decide) (x_meth0 Cbn hF (by decide) (xv 6 hF) Ch.cl rfl ⟨v + (z + 1), z, ucT os (z + 1) v, rfl, by omega, by omega, by omega, by omega, hts, rfl⟩) ⟨v + (z + 1), z, chT ((ucT os (z + 1) v).flatMap bndQ), rfl, by rw [ucT_bnd ho]; rfl⟩ (by omega)) (xa_cons x_int xa_nil)) rfl ⟨_, _, rfl, .int 0, rfl⟩))))) rfl))
    (ss_one (s_ret (x_cm (cm_eqOwn Ceq hF (by decide) (x_meth0 Cod hF (by decide) (xv 6 hF) Ch.cl rfl ⟨v + (z + 1), z + 1, ucT os (z + 1) v, rfl, by omega, by omega, by omega, by omega, by omega, fun q hq => (ucT_mem ho hq).1, ucT_rooms ho, rfl⟩) (xv 5 hF) ⟨v + (z + 1), z + 1, sortR (roomsU os (z + 1) v), ?_, rfl⟩))))))))), .rt _⟩
  · rw [hP.two_each, hP.even]
    exact same_sq (fun x hx => by
      simp only [List.mem_cons, List.not_mem_nil, or_false] at hx
      rcases hx with rfl | rfl <;> exact .bl true) (by decide)
  · rw [ucT_odd, sortR_idem]
end K84
/-! part FSup -/
set_option Elab.async false
set_option linter.all false
set_option maxRecDepth 100000
set_option maxHeartbeats 2000000
/-! super().__init__(txt) in the __init__ of an own exception over ValueError. -/
namespace FX
open PySem PySem.Spec PyProof.Rows L2
/-- what is known of the def that says super() -/
structure SupR (X : Cx) (C fI cc : Addr) : Prop where
  kd : X.env.scope.kind = .function
  ks : X.env.kindOf "super" = some .globalImplicit
  kc : X.env.kindOf "__class__" = some .free
  ka : X.env.kindOf "self" = some .local
  fu : X.env.func = some fI
  fn : ∃ oc od fd osl ar, X.K.lookup fI = some ⟨oc, od, .func fd, osl⟩ ∧ (fd.params.posonlyargs ++ fd.params.args).head? = some ar ∧ ar.arg = "self"
  co : ∃ cda ccl cdd vs ccs file tf, X.env.code = .ref cda ∧ X.K.lookup cda = some ⟨ccl, cdd, .fields vs, ccs⟩ ∧ vs[2]? = some (.str file tf) ∧ ((X.prog.main.file : Str) == file) = true
  cl : X.env.cells.lookup ("__class__" : Str) = some cc
  ce : ∃ oc od osl, X.K.lookup cc = some ⟨oc, od, .cell (some (.ref C)), osl⟩
  top : (X.prog.main.scope.names.lookup ("super" : Str)).isSome = false
  mg : X.mg "super" = none
  an : PySem.W.nsIn X.K cStatics "thirdparty.any" = some none
  al : PySem.W.ks_superIn X.K C C "__init__" = some (some (.builtin "ValueError.__init__"))
  sv : PySem.W.subIn X.K (.ref C) (.type "ValueError") = some true
section
variable {prog : Program} {w : World} {A : Around} {E : Value → Shared → Prop} {h : Heap} {g : Array GenState} {d : Drawn} {t : Nat} {os : OsState}
variable {nm q : Str} {C N : Addr} {bs bm : List Value} {hdct : Bool} {sn : List Str} {sub : List Value} {ab : Bool} {col : Option Bool} {dd : Option Addr} {k0 k1 k2 k3 k5 : Option Value}
theorem call_bwV {u e t0 : Addr} {rest : List Value} {Q : Value → Shared → Prop}
    (hC : h.get? C = some (excClassObj nm q C N bs bm hdct sn sub ab col dd k0 k1 k2 k3 k5 "ValueError.__new__")) (he : h.get? e = some (HandSPX.excO C t0)) (hu : h.get? u = some (PySem.W.kxs_mw "ValueError.__init__" e)) (hrest : rest.length ≤ sizeLine)
    (hq : ∀ h' t1, (∀ b o, b ≠ e → h.get? b = some o → h'.get? b = some o) → h'.get? e = some (HandSPX.excO C t1) → Q .none ⟨h', g, d, t, os⟩) :
    wpAny (model prog w) A (call (.ref u) rest) Q E ⟨h, g, d, t, os⟩ := by
  refine wpAny_call (codeAny_of_tree ?_)
  show wpAny _ A.in1 (callAny (.ref u) ⟨rest, []⟩) _ _ _
  simp only [callAny]
  refine wpAny_bind (wpAny_load hu ?_)
  simp only [PySem.W.kxs_mw, show (Value.type "method-wrapper" == Value.type "method" || Value.type "method-wrapper" == Value.type "builtin_function_or_method" || Value.type "method-wrapper" == Value.type "method-wrapper") = true by decide, if_true]
  refine W.KFB.if_so (by decide) ?_
  refine wpAny_bind (ESX.check_bound F.excBase_ValueError hC he rfl ?_)
  refine wpAny_bind (wpAny_pure (wpAny_pure ?_))
  refine ⟨Code.quiet_builtin _ (by decide +kernel), codeAny_builtin F.excBase_ValueError.initEntry ?_⟩
  rw [Around.under_plainId F.excBase_ValueError.init.plain _]
  wp_walk
  refine hq _ h.objs.size (fun b o hb ho => ?_) ?_
  · rw [Heap.get?_update_other _ _ (Ne.symm hb)]
    exact Heap.get?_push_of_some _ ho
  · rw [Heap.get?_update_self _ (Heap.get?_push_of_some _ he) rfl]
    rfl
end
section
variable {X : Cx} {pins : List (Addr × Obj)} {σ : L2.St} {H : Hp} {s : Shared} {a C fI cc : Addr}
theorem wp_super {body : List Stmt} {p0 p1 p2 p4 : Pos} {e1 : Expr} {x : Str} {pl : Sem Bool} {Q : Value → Shared → Prop} (T : OexC X.K C) (S : SupR X C fI cc) (I : Inv X pins σ H s) (e : H a = some (exo a C none)) (h0 : X.N[0]? = some ("self" : Str)) (hs : σ[0]? = some (some (V.ref a)))
    (ha : PA X [e1] (tCons (tC (.str x)) tNil))
    (hc : eval (.Call (.Attribute (.Call (.Name "super" p0) [] [] p1) "__init__" p2) [e1] [] p4) X.env = (do
      let ov ← attributeBase (.Call (.Name "super" p0) [] [] p1) "__init__" X.env (eval (.Call (.Name "super" p0) [] [] p1) X.env)
      standAt p2.atName
      let (f, first) ← holding [ov] (getMethod ov "__init__" pl)
      callWith p4 f first (backTo p4 (starEach [e1] X.env)) []))
    (he : starEach [e1] X.env = (false, eval e1 X.env) :: starEach [] X.env) (hpl2 : (backTo p4 (starEach [] X.env)).any (·.1) = false)
    (hq : ∀ s', Inv X pins σ H s' → Q .none s') :
    PySem.wpAt (model X.prog X.w) X.A (.func body X.env) (eval (.Call (.Attribute (.Call (.Name "super" p0) [] [] p1) "__init__" p2) [e1] [] p4) X.env) Q X.xe s := by
  obtain ⟨oc, od, fd, osl, ar, hf, hp, har⟩ := S.fn
  obtain ⟨cda, ccl, cdd, vs, ccs, file, tf, hco, hcode, hvs, hfile⟩ := S.co
  obtain ⟨occ, odc, oslc, hcell⟩ := S.ce
  obtain ⟨nm, q, N, bs, bm, sn, sub, ab, col, dd, k0, k1, k2, k3, k5, hC, hbm⟩ := T.cls
  have hcl : PySem.W.clsIn X.K C = some { name := nm, bases := bs, mro := .ref C :: bm, ns := N, qualname := q, hasDict := true, slotNames := sn, subclasses := sub, abstract := ab, collection := col, hasDel := false } := by unfold PySem.W.clsIn; rw [hC] <;> rfl
  have KI := I.kIn
  obtain ⟨t1, ho⟩ := exo_at I.hok e
  obtain ⟨m, hm, hloc⟩ := id I.loc
  have hself : m "self" = some (.ref a) := by
    obtain ⟨u, ru, l⟩ := hloc 0 "self" (.ref a) h0 hs (.inl S.ka)
    obtain rfl : u = Value.ref a := ru
    rcases l with ⟨_, l⟩ | ⟨l | l, _⟩
    · exact l
    · rw [S.ka] at l; cases l
    · rw [S.ka] at l; cases l
  obtain ⟨hh, g, d, t, os⟩ := s
  refine ks_wpAt_MethodCall (pl := pl) (ks_wpAt_super_base S.ks S.kc (by decide) S.fu (KI _ _ hf) rfl hp hco (KI _ _ hcode) rfl hvs hfile S.top ?_) hc
  refine PySem.W.ks_loadName_global S.kd S.ks ?_
  obtain ⟨mb, b1, b2⟩ := I.mod.blt
  refine Calls.loadGlobal_builtin (by rw [I.ok.glob]; exact I.mod.glob.keeps I.bk) S.mg (by rw [I.ok.blt]; exact b1.keeps I.bk) ((b2 "super" (by decide)).trans (show bootBuiltins "super" = some (.type "super") by decide +kernel)) ⟨rfl, ?_⟩
  refine wpAny_loadName_free S.kd S.kc S.cl ⟨_, KI _ _ hcell, rfl⟩ ?_
  rw [har]
  refine wpAny_loadName_local S.kd S.ka hm hself ?_
  refine ks_wpAny_isType_cls (KI _ _ hC) rfl ⟨rfl, ?_⟩
  have hmr : PySem.W.mroIn X.K C (.ref C) = some true := by
    unfold PySem.W.mroIn
    rw [hcl, Option.bind_some]
    show (if (List.isEmpty (Value.ref C :: bm)) = true then none else some ((Value.ref C :: bm).contains (.ref C))) = _
    simp
  refine ks_wpAny_call_super (KI _ _ hC) rfl ho rfl (fun c z => by cases z) (PySem.W.looks_mroIn KI hmr) (fun h1 so1 kk1 => ?_)
  have I1 : Inv X pins σ H ⟨h1, g, d, t, os⟩ := I.kept (t' := t) kk1
  have J1 : PySem.W.InstAt h1 a { cls := .ref C, dict := none, data := .fields #[.ref t1, .none, .none, .none, .bool false, .none] } C none := ⟨kk1 _ _ ho, rfl, rfl, trivial⟩
  have hal : PySem.W.alongIn X.K "__init__" (((Value.ref C :: bm).dropWhile (· != .ref C)).drop 1) = some (some (.builtin "ValueError.__init__")) := by
    have z := S.al
    unfold PySem.W.ks_superIn at z
    rw [hcl, Option.bind_some] at z
    exact z
  refine PySem.W.kxs_getMethod PySem.W.kxs_ValueError so1 (PySem.W.looks_opaque I1.kIn S.an) (l₀ := .ref C :: bm) (fun A Q E s k q => wpAny_bind ((PySem.W.looks_clsIn I1.kIn hcl) A _ E s k (wpAny_pure q))) rfl I1.kIn hal (J1.type.andThen (PySem.W.looks_subIn I1.kIn S.sv)) (PySem.W.ks_ne I1.kIn J1 hcl) (by decide) ?_
  have I2 : Inv X pins σ H ⟨h1.push (PySem.W.kxs_mw "ValueError.__init__" a), g, d, t + 1, os⟩ := I1.kept (t' := t + 1) (fun b u z => Heap.get?_push_of_some _ z)
  have hu : (h1.push (PySem.W.kxs_mw "ValueError.__init__" a)).get? h1.objs.size = some (PySem.W.kxs_mw "ValueError.__init__" a) := Heap.get?_push_at rfl rfl
  have I3 : Inv X (pins ++ [(h1.objs.size, PySem.W.kxs_mw "ValueError.__init__" a)]) σ H ⟨h1.push (PySem.W.kxs_mw "ValueError.__init__" a), g, d, t + 1, os⟩ := I2.pins_of fun p hp => by
    rcases List.mem_append.mp hp with hp | hp
    · exact I2.pin p (List.mem_append_right _ hp)
    · rw [List.mem_singleton.mp hp]
      exact ⟨hu, I1.hok.fresh (Nat.le_refl _), fun z => by have z : h1.objs.size = X.env.locals := z; exact absurd I1.lt (by rw [← z]; exact Nat.lt_irrefl _), I1.nofs (Nat.le_refl _), fun v z => by cases z⟩
  show wpAny _ _ (callWith p4 (.ref h1.objs.size) [] (backTo p4 (starEach [e1] X.env)) []) _ _ _
  suffices hsp : wpAny (model X.prog X.w) X.A (spliced (backTo p4 (starEach [e1] X.env))) (fun vs s₁ => PySem.W.KxsAt "ValueError.__init__" h1.objs.size a s₁.heap ∧ wpAny (model X.prog X.w) X.A (call (.ref h1.objs.size) ([] ++ vs)) Q X.xe s₁) X.xe ⟨h1.push (PySem.W.kxs_mw "ValueError.__init__" a), g, d, t + 1, os⟩ by
    rw [he] at hsp ⊢
    exact PySem.W.kxs_callWith (i := "ValueError.__init__") (x := a) (by show (false || (backTo p4 (starEach [] X.env)).any (·.1)) = false; rw [hpl2]; rfl) (Calls.evalArgs_plain hsp)
  refine thn (ha.run p4 _ _ σ H (fun vs H' => vs = [.str x] ∧ H' = H) I3 ⟨rfl, rfl⟩) fun us s1 ⟨vs', H1, I4, r1, q1⟩ => ?_
  obtain ⟨rfl, rfl⟩ := q1
  have hpin := (I4.pin (h1.objs.size, PySem.W.kxs_mw "ValueError.__init__" a) (List.mem_append_right _ (List.mem_append_right _ (List.mem_singleton.mpr rfl)))).1
  obtain ⟨h4, g4, d4, t4, os4⟩ := s1
  refine ⟨hpin, ?_⟩
  obtain ⟨t5, ho5⟩ := exo_at I4.hok e
  refine call_bwV (I4.kIn _ _ hC) ho5 hpin ?_ fun h' t6 k hx => ?_
  · have := r1.length
    show us.length ≤ _
    rw [← this, sizeLine_eq]
    exact Nat.le_of_ble_eq_true rfl
  · have I5 : Inv X pins σ H1 ⟨h4, g4, d4, t4, os4⟩ := I4.pins_of fun p hp => I4.pin p (List.mem_append_right _ (List.mem_append_left _ hp))
    have J := I5.write (t' := t4) (x := a) (e := a) (o := exo a C none) (by rw [e]; exact True.intro) (.inl rfl) k ⟨_, hx⟩ (exo_ok hx)
    have eu : upd H1 a (exo a C none) = H1 := by
      funext b
      by_cases hb : b = a
      · rw [hb, upd_same, e]
      · rw [upd_ne hb]
    rw [eu] at J
    exact hq _ J
end
/-- the promise of such an __init__(self, f): the field f -/
def SpX (C : Addr) (f : Str) : Sp := fun vs H Q _ => ∃ (a : Addr) (y : V), vs = [.ref a, y] ∧ H a = some (exo a C none) ∧ ∀ dx, H dx = none → dx ≠ a → Q .non (upd (upd H dx (exd dx [(f, y)])) a (exo a C (some dx)))
/-- the def of such an __init__ in the written part -/
structure SupD (P : Program) (K : PySem.W.Frag) (mg : Str → Option Value) (C fI : Addr) (qual : Str) (params : Arguments) (body : List Stmt) (scope : Scope) (fd : FuncData) : Prop where
  ex : ∃ (oc : Value) (od : Option Addr) (dV kV doc pm : Value) (an : Option Addr) (cda : Addr) (ct : Value) (osl : Array (Option Value)) (cc : Addr), fd = PySem.W.fnX "__init__" qual params body scope [("__class__", cc)] dV kV doc pm an (.ref cda) ct ∧
    K.lookup fI = some ⟨oc, od, .func fd, osl⟩ ∧ PySem.W.codeIn K (.ref cda) qual = true ∧ (∃ ccl cdd vs ccs file tf, K.lookup cda = some ⟨ccl, cdd, .fields vs, ccs⟩ ∧ vs[2]? = some (.str file tf) ∧ ((P.main.file : Str) == file) = true) ∧ (∃ o1 o2 o3, K.lookup cc = some ⟨o1, o2, .cell (some (.ref C)), o3⟩)
  top : (P.main.scope.names.lookup ("super" : Str)).isSome = false
  mg : mg "super" = none
  an : PySem.W.nsIn K cStatics "thirdparty.any" = some none
  al : PySem.W.ks_superIn K C C "__init__" = some (some (.builtin "ValueError.__init__"))
  sv : PySem.W.subIn K (.ref C) (.type "ValueError") = some true
theorem fn_sup {CX : CXT} {P : Program} {w : World} {K : PySem.W.Frag} {mg : Str → Option Value} {base : Heap} {k : Nat} {C fI : Addr} {qual f x : Str} {params : Arguments} {body : List Stmt} {scope : Scope} {fd : FuncData} {p0 p1 p2 p3 p4 p5 q1 q2 q3 q4 : Pos} {ar : Arg} {j : Nat}
    (SD : SupD P K mg C fI qual params body scope fd) (T : OexC K C) (hno : PySem.W.findIn K (.ref C) f = some none) (hbody : body = [.Expr (.Call (.Attribute (.Call (.Name "super" p0) [] [] p1) "__init__" p2) [.Constant (.str x) j p3] [] p4) p5, .Assign [.Attribute (.Name "self" q1) f q2] (.Name f q3) q4])
    (S : NdefX.NScope ["self", f, "__class__"] ["self", f] ["__class__"] scope) (hks : scope.names.lookup ("super" : Str) = some .globalImplicit) (hp : (params.posonlyargs ++ params.args).head? = some ar) (har : ar.arg = "self")
    (hfn : (f == ("__debug__" : Str)) = false) (hfc : (f == ("__classdict__" : Str)) = false)
    (hsw : ∀ env : PySem.Env, swapsWith (.Name f q3) (some (.Attribute (.Name "self" q1) f q2)) q4.line env = pure false)
    (hCall : ∀ env : PySem.Env, env.scope = scope → ∃ pl : Sem Bool, eval (.Call (.Attribute (.Call (.Name "super" p0) [] [] p1) "__init__" p2) [.Constant (.str x) j p3] [] p4) env = (do
      let ov ← attributeBase (.Call (.Name "super" p0) [] [] p1) "__init__" env (eval (.Call (.Name "super" p0) [] [] p1) env)
      standAt p2.atName
      let (f, first) ← holding [ov] (getMethod ov "__init__" pl)
      callWith p4 f first (backTo p4 (starEach [.Constant (.str x) j p3] env)) []))
    (hEx : ∀ env : PySem.Env, swapsWith (.Call (.Attribute (.Call (.Name "super" p0) [] [] p1) "__init__" p2) [.Constant (.str x) j p3] [] p4) none p5.line env = pure false) :
    FnOk P w K mg base CX (k + 1) fI fd ["self", f] (SpX C f) := by
  obtain ⟨oc, od, dV, kV, doc, pm, an, cda, ct, osl, cc, rfl, lk, hcd, hcode, hcell⟩ := SD.ex
  refine ⟨fun vs H Q E ⟨a, y, e, _⟩ => by rw [e]; rfl, fun A outer s H args us vs Q E hr e0 hb r hsp => ?_⟩
  obtain ⟨a, y, ev, ea, hq⟩ := hsp
  have KX : K.In s.heap := e0.mod.kin.keeps fun b o e => (e0.bs b o e).1
  have lim : s.heap.NoLimit := e0.mod.nolimit.keeps fun b o e => (e0.bs b o e).1
  have hl : vs.length = 2 := by rw [ev]; rfl
  refine codeAny_call_function hr.depth (KX _ _ lk) rfl S.co S.gen rfl (PySem.W.codeRec_of KX hcd) (hb _ _ _ _ ?_)
  refine wpAny_newFunctionEnv S.nocell (fun ⟨n, _⟩ hy => S.par n (List.of_mem_zip hy).1) (fun h₁ hns hsb => ⟨lim.fresh _ hsb, ?_⟩) S.kind
  let F : NdefX.NF := ⟨"__init__", qual, params, body, scope, [("__class__", cc)], cda⟩
  show codeAny _ _ (.func body (NdefX.envF F fI s.heap.objs.size)) _ _
  refine ks_codeAny_funcAt ?_
  have kp : ∀ b o, s.heap.get? b = some o → h₁.get? b = some o := fun b o e => hsb.extBut b o (Nat.ne_of_lt (Heap.lt_size e)) (Heap.get?_push_of_some _ e)
  obtain ⟨o1, o2, o3, lkc⟩ := hcell
  have hcc := e0.bs cc _ (e0.mod.kin _ _ lkc)
  have lkup : ∀ y c, F.cl.lookup y = some c → y = ("__class__" : Str) ∧ c = cc := fun y c e => by
    have e : (if (y == ("__class__" : Str)) = true then some cc else none) = some c := by
      have e' : (match y == ("__class__" : Str) with | true => some cc | false => ([] : List (Str × Addr)).lookup y) = some c := e
      cases hh : y == ("__class__" : Str) <;> rw [hh] at e' <;> exact e'
    split at e
    · rename_i h
      exact ⟨by simpa using h, (Option.some.inj e).symm⟩
    · cases e
  have CA : NdefX.CellsAt F.cl ["__class__"] [none] s.heap H := by
    refine ⟨rfl, fun y c e => ?_, fun x y c h1 h2 => (lkup x c h1).1.trans (lkup y c h2).1.symm, fun i y hi => ?_⟩
    · obtain ⟨_, rfl⟩ := lkup y c e
      exact ⟨hcc.2, some (.ref C), _, hcc.1, rfl⟩
    · cases i with
      | zero =>
        have hy : y = ("__class__" : Str) := (Option.some.inj hi).symm
        subst hy
        exact ⟨cc, rfl, fun v z => by cases z⟩
      | succ i => cases hi
  have I : L2.Inv (NdefX.ncx CX P w K mg base ["self", f, "__class__"] F fI A outer s H E) [] (NdefX.startF ["self", f, "__class__"] vs [none]) H { s with heap := h₁, toks := s.toks + ([("self" : Str), f].zip us).length } := NdefX.inv_startN (F := F) (ps := ["self", f]) S hr.hd e0 hl r CA hns kp
  have SR : SupR (NdefX.ncx CX P w K mg base ["self", f, "__class__"] F fI A outer s H E) C fI cc := by
    refine ⟨S.kind, hks, S.frk _ (List.mem_singleton.mpr rfl), S.par _ (by simp), rfl, ⟨_, _, _, _, ar, lk, hp, har⟩, ?_, rfl, ⟨_, _, _, lkc⟩, SD.top, SD.mg, SD.an, SD.al, SD.sv⟩
    obtain ⟨ccl, cdd, vs, ccs, file, tf, h1, h2, h3⟩ := hcode
    exact ⟨cda, ccl, cdd, vs, ccs, file, tf, rfl, h1, h2, h3⟩
  have hst : (NdefX.startF ["self", f, "__class__"] vs [none]) = [some (.ref a), some y, none] := by rw [ev]; rfl
  rw [hst] at I
  have fin : ∀ {σ' : L2.St} {H' : Hp} {s' : Shared} {v : V} {u : Value}, L2.Inv (NdefX.ncx CX P w K mg base ["self", f, "__class__"] F fI A outer s H E) [] σ' H' s' → L2.RelV v u → Q v H' → CE outer P w H s Q u s' :=
    fun {σ' H' s' v u} J rv q => ⟨v, H', J.os, J.bare, J.base, J.hok, rv, q⟩
  have hd0 : H s.heap.objs.size = none := e0.hok.fresh (Nat.le_refl _)
  have hint : interactive (NdefX.envF F fI s.heap.objs.size) = false := by
    have e : (NdefX.envF F fI s.heap.objs.size).scope.kind = .function := S.kind
    unfold interactive
    rw [e]
    rfl
  obtain ⟨pl, hcl⟩ := hCall (NdefX.envF F fI s.heap.objs.size) rfl
  rw [hbody]
  refine ks_wpAt_execs_cons (ks_wpAt_Expr_any (wp_super T SR I ea rfl rfl (pa_cons pe_str pa_nil rfl) hcl rfl rfl fun s' J => ?_) hint (hEx _))
  show PySem.wpAt _ _ _ (execs _ _) _ _ _
  refine wpAt_of_wpAny ?_
  have ps : PSs (NdefX.ncx CX P w K mg base ["self", f, "__class__"] F fI A outer s H E) [.Assign [.Attribute (.Name "self" q1) f q2] (.Name f q3) q4] (tOst K f (tVar 0) (tVar 1)) := pss_one (ps_ost (pe_var (i := 0) rfl (.inl (S.par _ (by simp)))) (pe_var (i := 1) rfl (.inl (S.par _ (by simp))) hfn hfc) (hsw _))
  refine wpAny_mono (ps.run [] s' _ H { nx := fun _ H' => Q .non H', rt := Q } J ⟨y, rfl, .ref a, rfl, a, C, rfl, T, hno, .inl ⟨ea, fun dx n ne => hq dx n ne⟩⟩) (fun fl s2 hs => ?_) fun e s2 hs => hs
  cases fl with
  | ret u =>
    obtain ⟨v, σ', H', J, rv, q⟩ := hs
    exact fin J rv q
  | next =>
    obtain ⟨σ', H', J, q⟩ := hs
    exact fin (v := V.non) (u := Value.none) J rfl q
  | brk =>
    obtain ⟨_, _, _, q⟩ := hs
    exact False.elim q
  | cont =>
    obtain ⟨_, _, _, q⟩ := hs
    exact False.elim q
end FX
/-! part FTry -/
set_option Elab.async false
set_option linter.all false
set_option maxRecDepth 100000
set_option maxHeartbeats 2000000
/-! try with several clauses «except C as n». -/
namespace FX
open PySem PySem.Spec PyProof.Rows L2
def goneE (D : Ends) (i : Nat) : Ends := { nx := fun σ' H' => D.nx (σ'.set i none) H', rt := D.rt, bk := fun σ' H' => D.bk (σ'.set i none) H', ct := fun σ' H' => D.ct (σ'.set i none) H' }
def wManyAs (K : PySem.W.Frag) (Wout : WX) (D : Ends) : List (Value × Nat × (Addr → Value → Option Addr → TS)) → WX
  | [] => Wout
  | (c, i, ts) :: r => fun cls d σ H => ∃ b, PySem.W.exmOne K cls c = some b ∧ (b = true → ∀ a, H a = none → ts a cls d (goneE D i) (σ.set i (some (.ref a))) H) ∧ (b = false → wManyAs K Wout D r cls d σ H)
inductive HdsAs (X : Cx) : List ExceptHandler → List (Value × Nat × (Addr → Value → Option Addr → TS)) → Prop
  | nil : HdsAs X [] []
  | cons {x n : Str} {c : Value} {i : Nat} {ts : Addr → Value → Option Addr → TS} {b₀ : Stmt} {suite : List Stmt} {np pos' : Pos} {hds : List ExceptHandler} {l : List (Value × Nat × (Addr → Value → Option Addr → TS))} (hc : Names X x c) (hi : X.N[i]? = some n) (hln : X.env.kindOf n = some .local)
      (hsu : ∀ (a : Addr) (oe : Obj) (cls : Value) (d : Option Addr) (pn : List (Addr × Obj)), Zc cls d oe → (∃ vs, oe.data = .fields vs) → PSs (X.suite a ((a, oe) :: pn)) (b₀ :: suite) (ts a cls d)) (r : HdsAs X hds l) :
      HdsAs X (.ExceptHandler (some (.Name x np)) (some n) (b₀ :: suite) pos' :: hds) ((c, i, ts) :: l)
section
variable {X : Cx} {body : List Stmt} {h₀ : ExceptHandler} {hds : List ExceptHandler} {l : List (Value × Nat × (Addr → Value → Option Addr → TS))} {pos : Pos} {tb : WX → TS} {Wout : WX}
theorem ps_try_manyAs (hs : X.stack = X.env :: X.outer) (hf : X.env.frame = some X.env.locals) (hN : X.N.Nodup) (tk : Takes X Wout)
    (hb : ∀ (W : WX) (pn : List (Addr × Obj)) (xe : Value → Shared → Prop), Takes (X.tr pn xe) W → PassesOwn (model X.prog X.w) X.A X.env xe → PSs (X.tr pn xe) body (tb W))
    (hh : HdsAs X (h₀ :: hds) l) : PS X (.Try body (h₀ :: hds) [] [] pos) (fun D σ H => tb (wManyAs X.K Wout D l) D σ H) := by
  refine ⟨fun pins s σ H D I h => ?_⟩
  have ok := I.ok
  have hfr : X.A.frames = some (X.env :: X.outer) := by rw [ok.frames, hs]
  refine wpAny_Try_except ?_
  refine wpAny_mono ((hb (wManyAs X.K Wout D l) (X.pn ++ pins) (fun e s₁ => wpAny (model X.prog X.w) X.A (noteFrame e X.env) (fun _ s₂ => wpAny (model X.prog X.w) X.A (setFlight e none) (fun _ s₃ =>
    wpAny (model X.prog X.w) X.A (handleBy e X.env (h₀ :: hds)) (SP X pins D) X.xe s₃) X.xe s₂) X.xe s₁) (fun u s' xx => ?_) PassesOwn.looking).run [] s σ H D (I.toTry _) h) (fun f s1 hsp => ?_) (fun e s1 he => he)
  · -- the catch
    obtain ⟨a, B, sI, pins', σ', H', cls, d, rfl, J', nb, up, sky, na, os, ag, w⟩ := xx
    have J : L2.Inv X pins σ' H' sI := J'.ofTry ok
    have sky' : Sky B (X.env :: X.outer) a (Zc cls d) X.env.locals s'.heap := by rw [← hs]; exact sky
    show wpAny (model X.prog X.w) X.A (noteFrame (.ref a) X.env) _ _ _
    refine Sky.land Zc.steady hfr hf sky' fun h3 fl3 up3 => ?_
    have J3 : L2.Inv X pins σ' H' { s' with heap := h3 } := J.landed nb fl3.1 (up.trans up3) os ag
    obtain ⟨oe3, vs3, he3, hz3, hd3⟩ := fl3.there
    have notFr : ∀ {h : Heap} {o : Obj} {vs : Array Value}, h.FunFrames B (X.env :: X.outer) → h.get? a = some o → o.data = .fields vs → a ∉ frs (X.env :: X.outer) := fun {h o vs} ff e dd hm => by
      obtain ⟨_, o', e', hnf⟩ := ff.mem hm
      rw [e] at e'; cases e'
      exact hnf _ dd
    have nfr := notFr fl3.2.2.1 he3 hd3
    have nL : a ≠ X.env.locals := fun z => nfr (List.mem_filterMap.mpr ⟨X.env, List.mem_cons_self, by rw [hf, z]⟩)
    have nF : a ∉ X.fs := fun hm => by
      obtain ⟨e, he, q⟩ := List.mem_filterMap.mp hm
      exact nfr (List.mem_filterMap.mpr ⟨e, List.mem_cons_of_mem _ he, q⟩)
    have S3 := J3.suite he3 hd3 na nL nF
    have go : ∀ {hds' : List ExceptHandler} {l' : List (Value × Nat × (Addr → Value → Option Addr → TS))}, HdsAs X hds' l' → wManyAs X.K Wout D l' cls d σ' H' →
        wpAny (model X.prog X.w) X.A (handleBy (.ref a) X.env hds') (SP X pins D) X.xe { s' with heap := h3 } := by
      intro hds' l' hk
      induction hk with
      | nil =>
        intro w
        refine wpAny_handleBy_nil ?_
        obtain ⟨k1, k2, k3, oe, vs, T, oT, ts', he, hz, hd, h1, hr⟩ := id fl3
        unfold PySem.passOn
        refine wpAny_bind (wpAny_field he hd h1 ?_)
        rw [if_neg (show ¬ ((Value.ref T == Value.none) = true) from by simp)]
        have fin : wpAny (model X.prog X.w) X.A (setFlight (.ref a) X.env.frame) (fun _ s4 => wpAny (model X.prog X.w) X.A (throw (.ref a) : Sem Flow) (SP X pins D) X.xe s4) X.xe { s' with heap := h3 } := by
          rw [hf]
          refine HandSPX.setFlight_upZ fl3 fun h4 hh4 up4 => wpAny_throw (tk _ _ ?_)
          exact ⟨a, B, sI, pins, σ', H', cls, d, rfl, J, nb, (up.trans up3).trans up4, .inr (.inr (by rw [hs]; exact hh4)), na, os, ag, w⟩
        first
          | exact wpAny_bind (wpAny_pure (wpAny_bind fin))
          | exact wpAny_bind fin
      | @cons x n c i ts b₀ suite np pos' hds2 l2 hc hi hln hsu r ih =>
        intro w
        have hloc : Loc X.env.scope n := .inl hln
        obtain ⟨b, hb1, hyes, hno⟩ := w
        refine wpAny_handleBy_cons (codeAny_handlers_test ?_) (by intro q; cases q)
        have LT : PySem.W.Looks (model X.prog X.w) h3 (typeOf (.ref a)) cls := fun A Q E s k q => wpAny_typeOf_ref (k _ _ he3) (by rw [hz3.1]; exact q)
        have LM := PySem.W.exm_one (M := model X.prog X.w) (J3.kIn) LT hb1
        have test : ∀ {Q : Value → Shared → Prop} {E : Value → Shared → Prop}, Q c { s' with heap := h3 } → wpAny (model X.prog X.w) (X.A.mark (some (.ref a))) (eval (.Name x np) X.env) Q E { s' with heap := h3 } := fun {Q E} q => by
          obtain ⟨hg, hdbg, hm | ⟨hm, hv, hnn⟩⟩ := hc
          · exact ld_glob (X := X.suite a ((a, oe3) :: (X.pn ++ pins))) S3 hg hm q hdbg
          · exact ld_blt (X := X.suite a ((a, oe3) :: (X.pn ++ pins))) S3 hg hm hv q hnn hdbg
        refine test (LM.here ?_)
        cases b with
        | true =>
          refine codeAny_handlers_suite_as ?_
          refine HandSPX.lands_againZ fl3 fun h4 fl4 up4 => ?_
          have J4 : L2.Inv X pins σ' H' { s' with heap := h4 } := J.landed nb fl4.1 ((up.trans up3).trans up4) os ag
          obtain ⟨oe4, vs4, he4, hz4, hd4⟩ := fl4.there
          have S4 := J4.suite he4 hd4 na nL nF
          refine store_ok (X := X.suite a ((a, oe4) :: (X.pn ++ pins))) (v := .ref a) S4 hN hi hloc rfl (fun s5 S5 => ?_) (.inr hln)
          refine wpAny_mono ((hsu a oe4 cls d (X.pn ++ pins) hz4 ⟨_, hd4⟩).run [] s5 _ H' _ S5 (hyes rfl a na)) (fun f s6 hsp => ?_) (fun _ _ z => False.elim z)
          have end_ : ∀ {σ6 : L2.St} {H6 : Hp} {Q : Shared → Prop}, L2.Inv (X.suite a ((a, oe4) :: (X.pn ++ pins))) [] σ6 H6 s6 → (∀ s7, L2.Inv X pins (σ6.set i none) H6 s7 → Q s7) →
              wpAny (model X.prog X.w) X.A (do bindName X.env n .none; unbindBehindTheSuite X.env n pos') (fun _ s7 => Q s7) X.xe s6 := fun {σ6 H6 Q} S6 hq => gone_ok (S6.unsuite ok) hN hi hln hq
          cases f with
          | next =>
            obtain ⟨σ6, H6, S6, q6⟩ := hsp
            exact end_ S6 fun s7 J7 => ⟨_, _, J7, q6⟩
          | brk =>
            obtain ⟨σ6, H6, S6, q6⟩ := hsp
            exact end_ S6 fun s7 J7 => ⟨_, _, J7, q6⟩
          | cont =>
            obtain ⟨σ6, H6, S6, q6⟩ := hsp
            exact end_ S6 fun s7 J7 => ⟨_, _, J7, q6⟩
          | ret u =>
            obtain ⟨v6, σ6, H6, S6, r6, q6⟩ := hsp
            exact end_ S6 fun s7 J7 => ⟨_, _, _, J7, r6, q6⟩
        | false =>
          show wpAny _ X.A (handleBy (.ref a) X.env hds2) _ _ _
          exact ih (hno rfl)
    exact go hh w
  · cases f with
    | next =>
      obtain ⟨σ', H', J', q⟩ := hsp
      exact wpAny_execs_nil ⟨σ', H', J'.ofTry ok, q⟩
    | brk =>
      obtain ⟨σ', H', J', q⟩ := hsp
      exact ⟨σ', H', J'.ofTry ok, q⟩
    | cont =>
      obtain ⟨σ', H', J', q⟩ := hsp
      exact ⟨σ', H', J'.ofTry ok, q⟩
    | ret u =>
      obtain ⟨v, σ', H', J', r, q⟩ := hsp
      exact ⟨v, σ', H', J'.ofTry ok, r, q⟩
end
end FX
/-! part FRx -/
set_option Elab.async false
set_option linter.all false
set_option maxRecDepth 100000
set_option maxHeartbeats 2000000
/-! Statements that raise own exceptions with one field; defs that return or raise; over data. -/
namespace FX
open PySem PySem.Spec PyProof.Rows L2 Evl
/-- what is known of an own exception class whose __init__ keeps one field -/
structure ExC (W : Wd) (x : Str) (C : Addr) (f : Str) : Prop where
  gl : W.mg x = some (.ref C)
  oc : OexC W.K C
  ini : ∃ fI fd, PySem.W.findIn W.K (.ref C) "__init__" = some (some (.ref fI)) ∧ PySem.W.typeIn W.K (.ref fI) = some (.type "function") ∧ FnOk W.P W.w W.K W.mg W.base CX0 1 fI fd ["self", f] (SpX C f) ∧ Binds W.K fd ["self", f] []
  xf : XfC W.K C
  no : PySem.W.findIn W.K (.ref C) f = some none
/-- the statement raises an exception of the class at C whose field f is d -/
def XR {ι : Type} (F : ι → Cx) (st : Stmt) (Γ : List Sl) (C : Addr) (f : Str) (d : Dat) : Prop := ∀ G0 H0 G H σ, Nx G0 H0 G H → Env H0 G H σ Γ → ∀ (D : Ends) (Wx : WX), (∀ i, Takes (F i) Wx) →
  (∀ σ' G' H' y dd, Nx G0 H0 G' H' → Dt G' y d → H' dd = some (.xd [(f, y)]) → Wx (.ref C) (some dd) σ' H') → wS F st D σ H
def XRs {ι : Type} (F : ι → Cx) (sts : List Stmt) (Γ : List Sl) (C : Addr) (f : Str) (d : Dat) : Prop := ∀ G0 H0 G H σ, Nx G0 H0 G H → Env H0 G H σ Γ → ∀ (D : Ends) (Wx : WX), (∀ i, Takes (F i) Wx) →
  (∀ σ' G' H' y dd, Nx G0 H0 G' H' → Dt G' y d → H' dd = some (.xd [(f, y)]) → Wx (.ref C) (some dd) σ' H') → wSs F sts D σ H
section
variable {ι : Type} {W : Wd} {k : Nat} {N : List Str} {F : ι → Cx} {Γ Γ1 Γ2 : List Sl} {a b c e : Expr} {es : List Expr} {st : Stmt} {sts : List Stmt} {d da db dc : Dat} {s : Sl} {o : Out} {pos : Pos} {C : Addr} {f : Str} {ds : List Dat}
theorem xr_cons (h : XS F st Γ (.nx Γ1)) (hr : XRs F sts Γ1 C f d) : XRs F (st :: sts) Γ C f d := fun G0 H0 G H σ n E D Wx tk q =>
  ⟨_, fun i => pss_cons (ps_w i) (pss_w i), h G0 H0 G H σ n E _ fun σ' G' H' n' e' E' => hr G0 H0 G' H' σ' n' E' D Wx tk q⟩
theorem xr_stop (h : XR F st Γ C f d) : XRs F (st :: sts) Γ C f d := fun G0 H0 G H σ n E D Wx tk q =>
  ⟨_, fun i => pss_cons (ps_w i) (pss_never (X := F i)), h G0 H0 G H σ n E _ Wx tk q⟩
theorem xr_ifT {sa sb : List Stmt} (h : XB F c Γ true) (h1 : XRs F sa Γ C f d) : XR F (.If c sa sb pos) Γ C f d := fun G0 H0 G H σ n E D Wx tk q =>
  ⟨_, fun i => ps_if (pt_w i) (pss_w i) (pss_w i), h H0 G H σ E _ fun G1 H1 n1 => h1 G0 H0 G1 H1 σ (n.trans n1) (E.mono n1) D Wx tk q⟩
/-- raise C(e) -/
theorem xr_raise {x : Str} {p p1 : Pos} (T : ExC W x C f) (hF : Fam W k N F) (hk : 2 ≤ k) (h : XD F e Γ d) (hg : ∀ n, Gl (F n) x := by intro _; rfl) (hdb : (x == ("__debug__" : Str)) = false := by decide)
    (he : ∀ n, starEach [e] (F n).env = (false, eval e (F n).env) :: starEach [] (F n).env := by intro _; rfl) (hpl : ∀ n, (backTo pos (starEach [] (F n).env)).any (·.1) = false := by intro _; rfl) :
    XR F (.Raise (some (.Call (.Name x p) [e] [] pos)) none p1) Γ C f d := fun G0 H0 G H σ n E D Wx tk q => by
  obtain ⟨fI, fd, i1, i2, i3, i4⟩ := T.ini
  refine ⟨_, fun i => ps_raise (hF.calm i) (tk i) (t := tMkO C (SpX C f) [] (wA F [e])) ?_, ?_⟩
  · refine pmk_oex (CX := CX0) (k := 1) (fI := fI) (fd := fd) (ps := ["self", f]) (ds := []) (by rw [hF.K i]; exact T.oc) (by rw [hF.K i]; exact i1) (by rw [hF.K i]; exact i2) ?_ ((hF.room i).mono hk) (by rw [hF.K i]; exact i4) .nil pass0 (hg i) (by rw [hF.mg i]; exact T.gl) (pa_w i) hdb (he i) (hpl i)
    rw [hF.prog i, hF.w i, hF.K i, hF.mg i, hF.base i]
    exact i3
  · refine xa_cons h xa_nil he H0 G H σ E _ fun vs G1 H1 n1 p1 => ?_
    cases p1 with
    | @cons y ys _ _ dy r =>
      cases r
      refine ⟨Nat.le_of_ble_eq_true rfl, fun ad hn => ⟨ad, y, rfl, upd_same, fun dx hdx hne => ⟨rfl, dx, [(f, y)], ?_, ?_, ?_, ?_⟩⟩⟩
      · rw [upd_same]
      · rw [upd_ne hne, upd_same]
      · rw [upd_ne hne] at hdx
        exact hdx
      · rw [upd_ne hne] at hdx
        have eq : (upd (L2.del (upd (upd (upd H1 ad (exo ad C none)) dx (exd dx [(f, y)])) ad (exo ad C (some dx))) ad) dx (.xd [(f, y)])) = upd H1 dx (.xd [(f, y)]) := by
          funext b
          by_cases hb : b = dx
          · rw [hb, upd_same, upd_same]
          · rw [upd_ne hb, upd_ne hb]
            by_cases hb2 : b = ad
            · rw [hb2, del_same, hn]
            · rw [del_ne hb2, upd_ne hb2, upd_ne hb, upd_ne hb2]
        show Wx _ _ _ _
        rw [eq]
        exact q σ G1 _ y dx ((n.trans n1).trans (Nx.newH n1.gh hdx)) dy upd_same
end
/-! ### defs that return or raise -/
inductive Rx where
  | ok (s : Sl)
  | exc (C : Addr) (f : Str) (d : Dat)
def SpRx (n : Nat) (R : List Dat → Rx → Prop) : Sp := fun vs H Q E => ∃ G ds r, Ex G H ∧ DtAll G vs ds ∧ ds.length = n ∧ R ds r ∧ match r with
  | .ok s => ∀ v G' H', Nx G H G' H' → RsOk H v G' H' s → Q v H'
  | .exc C f d => ∀ G' H' y dd, Nx G H G' H' → Dt G' y d → H' dd = some (.xd [(f, y)]) → E (.ref C) (some dd) H'
def FnX (W : Wd) (x : Str) (k n : Nat) (R : List Dat → Rx → Prop) : Prop := ∃ f fd ps, W.mg x = some (.ref f) ∧ PySem.W.keepIn W.K (.ref f) = true ∧ Binds W.K fd ps [] ∧ ps.length = n ∧ FnOk W.P W.w W.K W.mg W.base (L2.CX W.P W.w) k f fd ps (SpRx n R)
section
variable {ι : Type} {W : Wd} {k : Nat} {N : List Str} {F : ι → Cx} {Γ Γ1 Γ2 : List Sl} {a b c e : Expr} {es : List Expr} {st : Stmt} {sts : List Stmt} {d da db dc : Dat} {s : Sl} {o : Out} {pos : Pos} {C : Addr} {f : Str} {ds : List Dat}
theorem passF {P : Program} {w : World} {X : Cx} : Passes (L2.CX P w) X (fun _ _ _ => False) := fun _ _ _ _ _ _ _ ⟨_, _, _, _, _, _, _, _, _, _, _, _, z⟩ => z.elim
/-- such a def called where it returns -/
theorem x_callX {x : Str} {j n : Nat} {R : List Dat → Rx → Prop} {p : Pos} (hf : FnX W x j n R) (hF : Fam W k N F) (hj : j ≤ k) (ha : XA F (e :: es) Γ ds) (hl : ds.length = n) (hR : R ds (.ok s)) (hg : ∀ n, Gl (F n) x := by intro _; rfl) (hdb : (x == ("__debug__" : Str)) = false := by decide)
    (he : ∀ n, starEach (e :: es) (F n).env = (false, eval e (F n).env) :: starEach es (F n).env := by intro _; rfl) (hpl : ∀ n, (backTo pos (starEach es (F n).env)).any (·.1) = false := by intro _; rfl) :
    XE F (.Call (.Name x p) (e :: es) [] pos) Γ s := fun H0 G H σ E Q q => by
  obtain ⟨f, fd, ps, h1, h2, h3, h4, h5⟩ := hf
  refine ⟨tCall (SpRx n R) [] (fun _ _ _ => False) (wA F (e :: es)), fun i => ?_, ha H0 G H σ E _ fun vs G1 H1 n1 p1 => ?_⟩
  · refine pe_call (CX := L2.CX W.P W.w) (k := j) (fd := fd) (ps := ps) (ds := []) (f := f) ?_ ((hF.room i).mono hj) (hg i) (by rw [hF.mg i]; exact h1) (by rw [hF.K i]; exact h2) (by rw [hF.K i]; exact h3) .nil passF (pa_w i) hdb (he i) (hpl i)
    rw [hF.prog i, hF.w i, hF.K i, hF.mg i, hF.base i]
    exact h5
  · show SpRx n R (vs ++ []) H1 Q _
    rw [List.append_nil]
    exact ⟨G1, ds, .ok s, n1.gh, p1, hl, hR, fun v G2 H2 n2 p2 => q v G2 H2 (n1.trans n2) (rsok_back n1.hh p2)⟩
/-- a def's body, in the context of its call -/
abbrev bodyX (W : Wd) (N : List Str) (qual : Str) (sc : Scope) (f : Addr) (cdv : Value) (A : Around) (outer : List PySem.Env) (s : Shared) (H : Hp) (E : XK) : Unit → Cx := fun _ => cxOf (L2.CX W.P W.w) W.P W.w W.K W.mg W.base N qual sc f cdv A outer s H E
theorem fnx_mk {x qual : Str} {st : Stmt} {N ps : List Str} {k n : Nat} {R : List Dat → Rx → Prop} (hd : ∃ f fd, W.mg x = some (.ref f) ∧ FunD W.K x qual (defArgs st) (defBody st) (defScope st) [] [] f fd) (S : FnScope N ps (defScope st)) (hn : ps.length = n)
    (hb : ∀ (kV doc pm : Value) (an : Option Addr) (cdv ct : Value) (us : List Value), us.length = ps.length → bindArgs (PySem.W.fnOf x qual (defArgs st) (defBody st) (defScope st) .none kV doc pm an cdv ct) ⟨us, []⟩ = pure (ps.zip us))
    (body : ∀ (f : Addr) (cdv : Value) (A : Around) (outer : List PySem.Env) (s0 : Shared) (H : Hp) (E : XK), Fam W k N (bodyX W N qual (defScope st) f cdv A outer s0 H E) → ∀ ds r, R ds r → ds.length = n →
      match r with
      | .ok s => ∃ o, XSs (bodyX W N qual (defScope st) f cdv A outer s0 H E) (defBody st) (gam N ds) o ∧ OutRes o s
      | .exc C g d => XRs (bodyX W N qual (defScope st) f cdv A outer s0 H E) (defBody st) (gam N ds) C g d) :
    FnX W x (k + 1) n R := by
  obtain ⟨f, fd, hmg, hf⟩ := hd
  refine ⟨f, fd, ps, hmg, hf.kp, hf.bindsN hb, hn, hf.ok S (fun vs H Q E ⟨G, ds, r, _, h1, h2, _⟩ => by rw [dta_len h1, h2, hn]) fun cdv A outer s H vs Q E hr hsp => ?_⟩
  obtain ⟨G, ds, r, e, hd, hl, hR, hq⟩ := hsp
  have hF : Fam W k N (bodyX W N qual (defScope st) f cdv A outer s H E) := ⟨fun _ => rfl, fun _ => rfl, fun _ => rfl, fun _ => rfl, fun _ => rfl, fun _ => rfl, fun _ => rfl, fun _ => hr, S.nd, fun _ => passes_of rfl⟩
  refine ⟨wSs (bodyX W N qual (defScope st) f cdv A outer s H E) (defBody st), (pss_w (F := bodyX W N qual (defScope st) f cdv A outer s H E) ()), ?_⟩
  have hbd := body f cdv A outer s H E hF ds r hR hl
  cases r with
  | ok s1 =>
    obtain ⟨o, hs, ho⟩ := hbd
    refine hs G H G H _ (Nx.refl e) (env_start e hd) _ ?_
    cases ho with
    | rt => exact fun v G' H' n _ p => hq v G' H' n p
    | nx Γ => exact fun σ G' H' n _ _ => hq .non G' H' n .non
  | exc C g d =>
    exact hbd G H G H _ (Nx.refl e) (env_start e hd) _ (fun cls d _ H => E cls d H) (fun _ => takes_of rfl rfl rfl rfl) fun σ' G' H' y dd n hy hx => hq G' H' y dd n hy hx
end
end FX
/-! part FRy -/
set_option Elab.async false
set_option linter.all false
set_option maxRecDepth 100000
set_option maxHeartbeats 2000000
/-! try: f(..) except C1 as n1: return (t1, n1.f1) except C2 as n2: return (t2, n2.f2); over data. -/
namespace FX
open PySem PySem.Spec PyProof.Rows L2 Evl
/-- the contexts of a try's body -/
abbrev TrI (X : Cx) := { q : List (Addr × Obj) × (Value → Shared → Prop) // PassesOwn (model X.prog X.w) X.A X.env q.2 }
abbrev trF (X : Cx) : TrI X → Cx := fun q => X.tr q.1.1 q.1.2
theorem trF_fam {W : Wd} {k : Nat} {N : List Str} {F : Unit → Cx} (hF : Fam W k N F) : Fam W k N (trF (F ())) :=
  ⟨fun _ => hF.prog (), fun _ => hF.w (), fun _ => hF.K (), fun _ => hF.mg (), fun _ => hF.base (), fun _ => hF.names (), fun _ => hF.calm (), fun _ => hF.room (), hF.nd, fun q => q.2⟩
theorem pe_callW {X : Cx} {k : Nat} {f : Addr} {fd : FuncData} {ps : List Str} {ds : List Value} {dvs : List V} {sp : Sp} {Wx : WX} {x : Str} {p pos : Pos} {e : Expr} {es : List Expr} {t : TA} (F : FnOk X.prog X.w X.K X.mg X.base (L2.CX X.prog X.w) k f fd ps sp) (hr : Room k X.A) (hg : Gl X x) (hm : X.mg x = some (.ref f)) (hk : PySem.W.keepIn X.K (.ref f) = true) (hb : Binds X.K fd ps ds) (hd : Vals dvs ds) (tk : Takes X Wx)
    (ha : PA X (e :: es) t) (hdb : (x == ("__debug__" : Str)) = false) (he : starEach (e :: es) X.env = (false, eval e X.env) :: starEach es X.env) (hpl : (backTo pos (starEach es X.env)).any (·.1) = false) :
    PE X (.Call (.Name x p) (e :: es) [] pos) (fun σ H Q => t σ H fun vs H1 => sp (vs ++ dvs) H1 Q fun cls d H' => Wx cls d σ H') := by
  refine ⟨fun pins s σ H Q I h => ?_⟩
  refine wpAny_Call_Name_kw (ld_glob I hg hm ?_ hdb)
  refine PySem.W.callWith_K (h₀ := X.base) I.ok.mod.kin hk (thn (ha.run pos pins s σ H _ I h) fun us s1 ⟨vs, H1, I1, r, q⟩ => ⟨I1.kIn, ?_⟩) he hpl
  have r2 : Vals (vs ++ dvs) (us ++ ds) := r.append hd
  have hl : (us ++ ds).length = ps.length := by rw [← r2.length]; exact F.len _ _ _ _ q
  refine wpAny_call (codeAny_mono (F.run X.A X.stack s1 H1 ⟨us, []⟩ (us ++ ds) (vs ++ dvs) Q _ hr I1.env0 (hb s1 us I1.kIn hl) r2 q) fun r s' hq => ?_)
  cases r with
  | error e => exact tk _ _ (L2.XE.of_call I1 (fun cls d H' h => h) hq)
  | ok fl =>
    cases fl with
    | ret u => exact I1.after hq
    | next => exact False.elim hq
    | brk => exact False.elim hq
    | cont => exact False.elim hq
section
variable {W : Wd} {k : Nat} {N : List Str} {F : Unit → Cx} {Γ : List Sl} {e : Expr} {es : List Expr} {d : Dat} {pos pos2 pos3 : Pos} {C : Addr} {f : Str} {ds : List Dat}
theorem try_core {x : Str} {j n : Nat} {R : List Dat → Rx → Prop} {r : Rx} {p : Pos} {h₀ : ExceptHandler} {hds : List ExceptHandler} {l : List (Value × Nat × (Addr → Value → Option Addr → TS))} (hf : FnX W x j n R) (hF : Fam W k N F) (hst : (F ()).stack = (F ()).env :: (F ()).outer) (hfr : (F ()).env.frame = some (F ()).env.locals) (hj : j ≤ k) (ha : XA (trF (F ())) (e :: es) Γ ds) (hl : ds.length = n) (hR : R ds r) (hh : HdsAs (F ()) (h₀ :: hds) l)
    (hg : Gl (F ()) x) (hdb : (x == ("__debug__" : Str)) = false) (he : starEach (e :: es) (F ()).env = (false, eval e (F ()).env) :: starEach es (F ()).env) (hpl : (backTo pos (starEach es (F ()).env)).any (·.1) = false) (hs : swapsWith (.Call (.Name x p) (e :: es) [] pos) none pos2.line (F ()).env = pure false)
    {G0 H0 G H : Hp} {σ : L2.St} (n0 : Nx G0 H0 G H) (E : Env H0 G H σ Γ) (D : Ends)
    (q : match r with
      | .ok _ => ∀ G' H', Nx G0 H0 G' H' → Ex G G' → Env H0 G' H' σ Γ → D.nx σ H'
      | .exc C f d => ∀ G' H' y dd, Nx G0 H0 G' H' → Ex G G' → Env H0 G' H' σ Γ → Dt G' y d → H' dd = some (.xd [(f, y)]) → wManyAs W.K (fun _ _ _ _ => False) D l (.ref C) (some dd) σ H') :
    wS F (.Try [.Expr (.Call (.Name x p) (e :: es) [] pos) pos2] (h₀ :: hds) [] [] pos3) D σ H := by
  obtain ⟨fa, fd, ps, h1, h2, h3, h4, h5⟩ := hf
  refine ⟨_, fun i => ps_try_manyAs (X := F ()) (Wout := fun _ _ _ _ => False) hst hfr (by rw [hF.names]; exact hF.nd) takes_none5 (tb := fun Wx => fun D σ H => wA (trF (F ())) (e :: es) σ H fun vs H1 => SpRx n R (vs ++ []) H1 (fun _ H' => D.nx σ H') (fun cls d H' => Wx cls d σ H')) (fun Wx pn xe tk own => ?_) hh, ?_⟩
  · refine pss_one (ps_expr (pe_callW (X := (F ()).tr pn xe) (k := j) (fd := fd) (ps := ps) (ds := []) (f := fa) ?_ ((hF.room ()).mono hj) hg (by show (F ()).mg x = _; rw [hF.mg]; exact h1) (by show PySem.W.keepIn (F ()).K _ = _; rw [hF.K]; exact h2) (by show Binds (F ()).K _ _ _; rw [hF.K]; exact h3) .nil tk (pa_w (F := trF (F ())) ⟨(pn, xe), own⟩) hdb he hpl) hs)
    show FnOk (F ()).prog (F ()).w (F ()).K (F ()).mg (F ()).base (L2.CX (F ()).prog (F ()).w) j fa fd ps _
    rw [hF.prog, hF.w, hF.K, hF.mg, hF.base]
    exact h5
  · refine ha H0 G H σ E _ fun vs G1 H1 n1 p1 => ?_
    show SpRx n R (vs ++ []) H1 _ _
    rw [List.append_nil]
    refine ⟨G1, ds, r, n1.gh, p1, hl, hR, ?_⟩
    rw [hF.K]
    cases r with
    | ok s => exact fun v G' H' n2 _ => q G' H' ((n0.trans n1).trans n2) (n1.gg.trans n2.gg) ((E.mono n1).mono n2)
    | exc C f d => exact fun G' H' y dd n2 hy hx => q G' H' y dd ((n0.trans n1).trans n2) (n1.gg.trans n2.gg) ((E.mono n1).mono n2) hy hx
/-- the suite «return (t, n.f)» -/
def tsH (i : Nat) (C : Addr) (fld t : Str) : Addr → Value → Option Addr → TS := fun a cls d => tRet (tTup (tCons (tC (.str t)) (tCons (tXf a cls d C fld (tVar i)) tNil)))
theorem psH {X : Cx} {i : Nat} {nm fld t : Str} {j x1} {q1 q2 q3 q4 q5 : Pos} (T : XfC X.K C) (hno : PySem.W.findIn X.K (.ref C) fld = some none) (hi : X.N[i]? = some nm) (hv : Vis X.env.scope nm) (hd : (nm == ("__debug__" : Str)) = false) (hcd : (nm == ("__classdict__" : Str)) = false)
    (h1 : starEach [.Constant (.str t) j q1, .Attribute (.Name nm q2) fld q3] X.env = (false, eval (.Constant (.str t) j q1) X.env) :: starEach [.Attribute (.Name nm q2) fld q3] X.env) (h2 : starEach [.Attribute (.Name nm q2) fld q3] X.env = (false, eval (.Attribute (.Name nm q2) fld q3) X.env) :: starEach [] X.env)
    (h3 : attributeBase (.Name nm q2) fld X.env (eval (.Name nm q2) X.env) = eval (.Name nm q2) X.env) (a : Addr) (oe : Obj) (cls : Value) (d : Option Addr) (pn : List (Addr × Obj)) (hz : Zc cls d oe) (hf : ∃ vs, oe.data = .fields vs) :
    PSs (X.suite a ((a, oe) :: pn)) [.Return (some (.Tuple [.Constant (.str t) j q1, .Attribute (.Name nm q2) fld q3] x1 q4)) q5] (tsH i C fld t a cls d) :=
  pss_one (ps_ret (pe_tup (pa_cons pe_str (pa_cons (pe_xf T hno hz hf (pe_var (X := X.suite a ((a, oe) :: pn)) hi hv hd hcd) h3) pa_nil h2) h1)))
theorem tsH_ok {i : Nat} {fld t : Str} {a dd : Addr} {y : V} {D : Ends} {G0 H0 G G' H' : Hp} {σ : L2.St} (n0 : Nx G0 H0 G' H') (ee : Ex G G') (hi : i < σ.length) (hy : Dt G' y d) (hx : H' dd = some (.xd [(fld, y)]))
    (q : OutOk G0 H0 G D (.rt (.dat (.sq true [.str t, d])))) : tsH i C fld t a (.ref C) (some dd) (goneE D i) (σ.set i (some (.ref a))) H' := by
  refine ⟨.ref a, by rw [List.getElem?_set_self hi], rfl, rfl, dd, _, y, rfl, hx, List.lookup_cons_self, ?_⟩
  refine ⟨Nat.le_of_ble_eq_true rfl, fun p hp => ?_⟩
  exact q _ _ _ (n0.trans (Nx.new n0.gh hp)) (ee.trans (Nx.new n0.gh hp).gg) (dt_new (t := true) n0.gh hp (.cons (.str t) (.cons hy .nil)))
/-- the call returns: on -/
theorem s_try_ok {x : Str} {j n : Nat} {R : List Dat → Rx → Prop} {s : Sl} {p : Pos} {h₀ : ExceptHandler} {hds : List ExceptHandler} {l : List (Value × Nat × (Addr → Value → Option Addr → TS))} (hf : FnX W x j n R) (hF : Fam W k N F) (hst : (F ()).stack = (F ()).env :: (F ()).outer) (hfr : (F ()).env.frame = some (F ()).env.locals) (hj : j ≤ k) (ha : XA (trF (F ())) (e :: es) Γ ds) (hl : ds.length = n) (hR : R ds (.ok s)) (hh : HdsAs (F ()) (h₀ :: hds) l)
    (hg : Gl (F ()) x) (hdb : (x == ("__debug__" : Str)) = false) (he : starEach (e :: es) (F ()).env = (false, eval e (F ()).env) :: starEach es (F ()).env) (hpl : (backTo pos (starEach es (F ()).env)).any (·.1) = false) (hs : swapsWith (.Call (.Name x p) (e :: es) [] pos) none pos2.line (F ()).env = pure false) :
    XS F (.Try [.Expr (.Call (.Name x p) (e :: es) [] pos) pos2] (h₀ :: hds) [] [] pos3) Γ (.nx Γ) := fun G0 H0 G H σ n0 E D q =>
  try_core hf hF hst hfr hj ha hl hR hh hg hdb he hpl hs n0 E D fun G' H' n e E' => q σ G' H' n e E'
/-- the call raises what the first clause names -/
theorem s_try_1 {x : Str} {j n i : Nat} {R : List Dat → Rx → Prop} {fld t : Str} {p : Pos} {h₀ : ExceptHandler} {hds : List ExceptHandler} {l : List (Value × Nat × (Addr → Value → Option Addr → TS))} (hf : FnX W x j n R) (hF : Fam W k N F) (hst : (F ()).stack = (F ()).env :: (F ()).outer) (hfr : (F ()).env.frame = some (F ()).env.locals) (hj : j ≤ k) (ha : XA (trF (F ())) (e :: es) Γ ds) (hl : ds.length = n) (hR : R ds (.exc C fld d)) (hh : HdsAs (F ()) (h₀ :: hds) ((.ref C, i, tsH i C fld t) :: l))
    (hm : PySem.W.exmOne W.K (.ref C) (.ref C) = some true) (hi : i < Γ.length)
    (hg : Gl (F ()) x) (hdb : (x == ("__debug__" : Str)) = false) (he : starEach (e :: es) (F ()).env = (false, eval e (F ()).env) :: starEach es (F ()).env) (hpl : (backTo pos (starEach es (F ()).env)).any (·.1) = false) (hs : swapsWith (.Call (.Name x p) (e :: es) [] pos) none pos2.line (F ()).env = pure false) :
    XS F (.Try [.Expr (.Call (.Name x p) (e :: es) [] pos) pos2] (h₀ :: hds) [] [] pos3) Γ (.rt (.dat (.sq true [.str t, d]))) := fun G0 H0 G H σ n0 E D q =>
  try_core hf hF hst hfr hj ha hl hR hh hg hdb he hpl hs n0 E D fun G' H' y dd n e E' hy hx => ⟨true, hm, fun _ a _ => tsH_ok n e (by rw [E'.len]; exact hi) hy hx q, fun z => nomatch z⟩
/-- .. what the second one names -/
theorem s_try_2 {x : Str} {j n i i1 : Nat} {R : List Dat → Rx → Prop} {fld t : Str} {p : Pos} {h₀ : ExceptHandler} {hds : List ExceptHandler} {l : List (Value × Nat × (Addr → Value → Option Addr → TS))} {c1 : Value} {ts1 : Addr → Value → Option Addr → TS} (hf : FnX W x j n R) (hF : Fam W k N F) (hst : (F ()).stack = (F ()).env :: (F ()).outer) (hfr : (F ()).env.frame = some (F ()).env.locals) (hj : j ≤ k) (ha : XA (trF (F ())) (e :: es) Γ ds) (hl : ds.length = n) (hR : R ds (.exc C fld d)) (hh : HdsAs (F ()) (h₀ :: hds) ((c1, i1, ts1) :: (.ref C, i, tsH i C fld t) :: l))
    (hm1 : PySem.W.exmOne W.K (.ref C) c1 = some false) (hm : PySem.W.exmOne W.K (.ref C) (.ref C) = some true) (hi : i < Γ.length)
    (hg : Gl (F ()) x) (hdb : (x == ("__debug__" : Str)) = false) (he : starEach (e :: es) (F ()).env = (false, eval e (F ()).env) :: starEach es (F ()).env) (hpl : (backTo pos (starEach es (F ()).env)).any (·.1) = false) (hs : swapsWith (.Call (.Name x p) (e :: es) [] pos) none pos2.line (F ()).env = pure false) :
    XS F (.Try [.Expr (.Call (.Name x p) (e :: es) [] pos) pos2] (h₀ :: hds) [] [] pos3) Γ (.rt (.dat (.sq true [.str t, d]))) := fun G0 H0 G H σ n0 E D q =>
  try_core hf hF hst hfr hj ha hl hR hh hg hdb he hpl hs n0 E D fun G' H' y dd n e E' hy hx => ⟨false, hm1, (fun z => nomatch z), fun _ => ⟨true, hm, fun _ a _ => tsH_ok n e (by rw [E'.len]; exact hi) hy hx q, fun z => nomatch z⟩⟩
end
end FX
/-! part D14 -/
set_option Elab.async false
set_option linter.all false
set_option maxRecDepth 100000
set_option maxHeartbeats 4000000
namespace K84
open PySem PySem.Spec PyProof.Rows L2 Evl FX M84
variable {W : Wd}
theorem atI_last {l : List Int} (h : l ≠ []) : atI (l.map Dat.int) (-1) = some (.int (l.getLastD 0)) := by
  have hl := List.length_pos_iff.mpr h
  have e : ixN (l.map Dat.int).length (-1) = some (l.length - 1) := by
    unfold ixN
    rw [List.length_map, if_neg (by decide), if_pos (by omega)]
    congr 1
    omega
  unfold atI
  rw [e]
  show (l.map Dat.int)[l.length - 1]? = _
  rw [List.getElem?_map, List.getLastD_eq_getLast?, List.getLast?_eq_getElem?, List.getElem?_eq_getElem (by omega)]
  rfl
theorem sc_other : FnScope ["orders", "room", "leaving", "number", "things", "rows", "own", "rest", "least", "twice", "free", "candidates", "entering", "place", "row"] ["orders", "room", "leaving"] (defScope (top 35)) := ⟨rfl, rfl, rfl, by decide +kernel, rfl, by decide +kernel, by decide +kernel⟩
def Rother (CN CM : Addr) : List Dat → Rx → Prop := fun ds r => ∃ (t : Bool) (os : List (List Int)) (d v : Nat) (room : List Int) (x : Int), ds = [ordD t os, tI room, .int x] ∧ Ords os d v ∧ room.length ≤ 1000 ∧
  ((room.length ≠ d ∧ r = .exc CN "room" (tI room)) ∨
   (room.length = d ∧ (∀ p ∈ room, 0 ≤ p ∧ p < ((v + d : Nat) : Int)) ∧ room.Nodup ∧ room ≠ sortI room ∧ r = .exc CN "room" (tI room)) ∨
   (isRoom (v + d) d room ∧ room ∉ roomsU os d v ∧ r = .exc CN "room" (tI room)) ∨
   (room ∈ roomsU os d v ∧ x ∉ room ∧ r = .exc CM "fault" (.str "leaving")) ∨
   (∃ (a : Nat) (y : Int), room ∈ roomsU os d v ∧ room[a]? = some x ∧ Way os d v room (room.eraseIdx a) x y ∧ r = .ok (.dat (tI (ins (room.eraseIdx a) y)))))
theorem ok_other {CN CM : Addr} (T : Bi W) (EN : ExC W "NotARoom" CN "room") (EM : ExC W "Mismatch" CM "fault") (C1 : Fn W "check_orders" 1 1 Rcheck) (C2 : Fn W "full_orders" 2 1 Rfull) (C3 : Fn W "own_places" 2 1 Rown) (C4 : Fn W "above_in_all" 3 2 Rall) (C5 : Fn W "first_of" 1 2 Rfirst)
    (Cf : Fn W "room_fault" 1 3 Rfault) (Cw : Fn W "without" 1 2 Rwithout) (Ce : Fn W "exchanged" 1 3 Rexchanged) (D : HasDef W "other_unbeaten" 35) : FnX W "other_unbeaten" 4 3 (Rother CN CM) := by
  refine fnx_mk D sc_other rfl (fun _ _ _ _ _ _ us hl => match us, hl with | [_, _, _], _ => rfl) fun f cdv A outer s0 H E hF ds r hR _ => ?_
  obtain ⟨t, os, d, v, room, x, rfl, ho, hl, hR⟩ := hR
  have h1 := ho.d1
  have h2 := ho.d4
  have h3 := ho.v1
  have h4 := ho.v8
  have hrl : (fulls os d v).length = d := by rw [fulls_len, ho.len]
  have hrows : (fulls os d v) ≠ [] := List.ne_nil_of_length_pos (by omega)
  have sorted : ∀ b : Bool, decide (room = sortI room) = b → (!PyData.eqv (sqI false room).py (sqI false (sortI room)).py) = !b := fun b e => by rw [eqv_sqI, e]
  have owned : ∀ b : Bool, decide (room = irg v d) = b → (!PyData.eqv (sqI true room).py (sqI true (irg v d)).py) = !b := fun b e => by rw [eqv_sqI, e]
  have meets : ∀ {q : List Int}, q ≠ [] → AllPl d v q → ∀ r ∈ fulls os d v, r.length ≤ 1000 ∧ ∃ p ∈ r, p ∈ q := fun {q} hne hp r hr => by
    obtain ⟨p, hpm⟩ := List.exists_mem_of_ne_nil _ hne
    exact ⟨by have := fulls_rlen ho hr; omega, p, (full_perm ho hr).mem_iff.mpr (pl_irg.mp (hp p hpm)), hpm⟩
  rcases hR with ⟨hR, rfl⟩ | ⟨hR, hrange, hnd, hs, rfl⟩ | ⟨hR, hno, rfl⟩ | ⟨hR, hx, rfl⟩ | ⟨a, y, hR, hx, way, rfl⟩
  · have hne : ("count" : Str) ≠ "" := by decide
    exact xr_cons (s_setT hF (x_call C1 hF (by decide) (xa_cons (xv 0 hF) xa_nil) rfl ⟨t, os, d, v, rfl, ho, rfl⟩) (gs_cons (g_name 3 hF) (gs_cons (g_name 4 hF) gs_nil))) (xr_cons (s_set 5 hF (XE.pub (x_call C2 hF (by decide) (xa_cons (xv 0 hF) xa_nil) rfl ⟨t, os, d, v, rfl, ho, rfl⟩))) (xr_cons (s_set 6 hF (x_call C3 hF (by decide) (xa_cons (xv 0 hF) xa_nil) rfl ⟨t, os, d, v, rfl, ho, rfl⟩)) (xr_stop (xr_ifT (XB.is (b_w (w_or (y := false) (XB.is (b_cm (cm_neS (x_call Cf hF (by decide) (xa_cons (XD.is (da := nD (v + d)) (x_add (xv 4 hF) (xv 3 hF)) (by congr 1)) (xa_cons (xv 3 hF) (xa_cons (xv 1 hF) xa_nil))) rfl ⟨((v + d : Nat) : Int), ((d : Nat) : Int), room, rfl, hl, .inr ⟨by omega, rfl⟩⟩) x_str)) (decide_eq_true hne)) fun z => nomatch z)) rfl) (xr_stop (xr_raise EN hF (by decide) (xv 1 hF)))))))
  · have hsrt := sorted false (decide_eq_false hs)
    exact xr_cons (s_setT hF (x_call C1 hF (by decide) (xa_cons (xv 0 hF) xa_nil) rfl ⟨t, os, d, v, rfl, ho, rfl⟩) (gs_cons (g_name 3 hF) (gs_cons (g_name 4 hF) gs_nil))) (xr_cons (s_set 5 hF (XE.pub (x_call C2 hF (by decide) (xa_cons (xv 0 hF) xa_nil) rfl ⟨t, os, d, v, rfl, ho, rfl⟩))) (xr_cons (s_set 6 hF (x_call C3 hF (by decide) (xa_cons (xv 0 hF) xa_nil) rfl ⟨t, os, d, v, rfl, ho, rfl⟩)) (xr_stop (xr_ifT (XB.is (b_w (w_or (XB.is (b_cm (cm_neS (x_call Cf hF (by decide) (xa_cons (XD.is (da := nD (v + d)) (x_add (xv 4 hF) (xv 3 hF)) (by congr 1)) (xa_cons (xv 3 hF) (xa_cons (xv 1 hF) xa_nil))) rfl ⟨((v + d : Nat) : Int), ((d : Nat) : Int), room, rfl, hl, .inl ⟨by omega, hrange, hnd, rfl⟩⟩) x_str)) (decide_eq_false fun z => z rfl)) fun _ => w_or1 (XB.is (b_cm (cm_neD hF (XE.pub (o_list T.list hF (q_of (xv 1 hF)))) (XE.pub (XE.is (o_sorted T.sorted hF (q_of (xv 1 hF)) (ok_ints (by omega))) (by rw [sort_ints]))) (flat_sqI false room) (flat_sqI false (sortI room)) (shaped_sqI false room) (shaped_sqI false (sortI room)))) hsrt))) rfl) (xr_stop (xr_raise EN hF (by decide) (xv 1 hF)))))))
  · obtain ⟨hlen, hrange, hasc⟩ := hR
    have hnd := asc_nodup hasc
    have hsrt := sorted true (decide_eq_true (sortI_self hasc).symm)
    have hne : room ≠ [] := fun z => by rw [z] at hlen; simp at hlen; omega
    have hPl : AllPl d v room := fun p hp => by have := hrange p hp; unfold Pl; omega
    have hexr := meets hne hPl
    have hnown : room ≠ irg v d := fun z => hno (List.mem_append_right _ (List.mem_singleton.mpr z))
    have hown := owned false (decide_eq_false hnown)
    have hab : (abvAll (fulls os d v) room).length ≠ 0 := fun z => hno (List.mem_append_left _ ((mem_ub ho).mpr ⟨hasc, hPl, hlen, (abv_iff ho hPl hne).mp z⟩))
    exact xr_cons (s_setT hF (x_call C1 hF (by decide) (xa_cons (xv 0 hF) xa_nil) rfl ⟨t, os, d, v, rfl, ho, rfl⟩) (gs_cons (g_name 3 hF) (gs_cons (g_name 4 hF) gs_nil))) (xr_cons (s_set 5 hF (XE.pub (x_call C2 hF (by decide) (xa_cons (xv 0 hF) xa_nil) rfl ⟨t, os, d, v, rfl, ho, rfl⟩))) (xr_cons (s_set 6 hF (x_call C3 hF (by decide) (xa_cons (xv 0 hF) xa_nil) rfl ⟨t, os, d, v, rfl, ho, rfl⟩)) (xr_cons (s_ifN (XB.is (b_w (w_or (XB.is (b_cm (cm_neS (x_call Cf hF (by decide) (xa_cons (XD.is (da := nD (v + d)) (x_add (xv 4 hF) (xv 3 hF)) (by congr 1)) (xa_cons (xv 3 hF) (xa_cons (xv 1 hF) xa_nil))) rfl ⟨((v + d : Nat) : Int), ((d : Nat) : Int), room, rfl, hl, .inl ⟨by omega, hrange, hnd, rfl⟩⟩) x_str)) (decide_eq_false fun z => z rfl)) fun _ => w_or1 (XB.is (b_cm (cm_neD hF (XE.pub (o_list T.list hF (q_of (xv 1 hF)))) (XE.pub (XE.is (o_sorted T.sorted hF (q_of (xv 1 hF)) (ok_ints (by omega))) (by rw [sort_ints]))) (flat_sqI false room) (flat_sqI false (sortI room)) (shaped_sqI false room) (shaped_sqI false (sortI room)))) hsrt))) rfl)) (xr_stop (xr_ifT (XB.is (b_w (w_and (XB.is (b_cm (cm_neD hF (xv 1 hF) (xv 6 hF) (flat_sqI true room) (flat_sqI true (irg v d)) (shaped_sqI true room) (shaped_sqI true (irg v d)))) hown) fun _ => w_and1 (b_cm (cm_gt (x_lenM T.len hF (q_of (x_call C4 hF (by decide) (xa_cons (xv 5 hF) (xa_cons (xv 1 hF) xa_nil)) rfl ⟨fulls os d v, room, rfl, hrows, by omega, hexr, rfl⟩))) x_int)))) (by rw [decide_eq_true (show _ > _ by omega)]; rfl)) (xr_stop (xr_raise EN hF (by decide) (xv 1 hF))))))))
  · obtain ⟨hlen, hrange, hasc⟩ := roomsU_room ho hR
    have hnd := asc_nodup hasc
    have hsrt := sorted true (decide_eq_true (sortI_self hasc).symm)
    have hne : room ≠ [] := fun z => by rw [z] at hlen; simp at hlen; omega
    have hPl : AllPl d v room := fun p hp => by have := hrange p hp; unfold Pl; omega
    have hexr := meets hne hPl
    have hown := owned (decide (room = irg v d)) rfl
    have hif2 : ((!decide (room = irg v d)) && decide ((((abvAll (fulls os d v) room).length : Nat) : Int) > 0)) = false := by
      by_cases c : room = irg v d
      · rw [decide_eq_true c]
        rfl
      · have hU := ((mem_roomsU ho).mp hR).resolve_right c
        have z := (abv_iff ho hPl hne).mpr hU.2.2.2
        rw [decide_eq_false (show ¬ _ > _ by omega)]
        simp
    exact xr_cons (s_setT hF (x_call C1 hF (by decide) (xa_cons (xv 0 hF) xa_nil) rfl ⟨t, os, d, v, rfl, ho, rfl⟩) (gs_cons (g_name 3 hF) (gs_cons (g_name 4 hF) gs_nil))) (xr_cons (s_set 5 hF (XE.pub (x_call C2 hF (by decide) (xa_cons (xv 0 hF) xa_nil) rfl ⟨t, os, d, v, rfl, ho, rfl⟩))) (xr_cons (s_set 6 hF (x_call C3 hF (by decide) (xa_cons (xv 0 hF) xa_nil) rfl ⟨t, os, d, v, rfl, ho, rfl⟩)) (xr_cons (s_ifN (XB.is (b_w (w_or (XB.is (b_cm (cm_neS (x_call Cf hF (by decide) (xa_cons (XD.is (da := nD (v + d)) (x_add (xv 4 hF) (xv 3 hF)) (by congr 1)) (xa_cons (xv 3 hF) (xa_cons (xv 1 hF) xa_nil))) rfl ⟨((v + d : Nat) : Int), ((d : Nat) : Int), room, rfl, hl, .inl ⟨by omega, hrange, hnd, rfl⟩⟩) x_str)) (decide_eq_false fun z => z rfl)) fun _ => w_or1 (XB.is (b_cm (cm_neD hF (XE.pub (o_list T.list hF (q_of (xv 1 hF)))) (XE.pub (XE.is (o_sorted T.sorted hF (q_of (xv 1 hF)) (ok_ints (by omega))) (by rw [sort_ints]))) (flat_sqI false room) (flat_sqI false (sortI room)) (shaped_sqI false room) (shaped_sqI false (sortI room)))) hsrt))) rfl)) (xr_cons (s_ifN (XB.is (b_w (w_and (XB.is (b_cm (cm_neD hF (xv 1 hF) (xv 6 hF) (flat_sqI true room) (flat_sqI true (irg v d)) (shaped_sqI true room) (shaped_sqI true (irg v d)))) hown) fun _ => w_and1 (b_cm (cm_gt (x_lenM T.len hF (q_of (x_call C4 hF (by decide) (xa_cons (xv 5 hF) (xa_cons (xv 1 hF) xa_nil)) rfl ⟨fulls os d v, room, rfl, hrows, by omega, hexr, rfl⟩))) x_int)))) (by simpa using hif2))) (xr_stop (xr_ifT (XB.is (b_cm (cm_notIn hF (xv 2 hF) (q_of (xv 1 hF)))) (by rw [decide_eq_false hx]; rfl)) (xr_stop (xr_raise EM hF (by decide) x_str))))))))
  · obtain ⟨hlen, hrange, hasc⟩ := roomsU_room ho hR
    have hnd := asc_nodup hasc
    have hsrt := sorted true (decide_eq_true (sortI_self hasc).symm)
    have hne : room ≠ [] := fun z => by rw [z] at hlen; simp at hlen; omega
    have hPl : AllPl d v room := fun p hp => by have := hrange p hp; unfold Pl; omega
    have hexr := meets hne hPl
    have hown := owned (decide (room = irg v d)) rfl
    have hif2 : ((!decide (room = irg v d)) && decide ((((abvAll (fulls os d v) room).length : Nat) : Int) > 0)) = false := by
      by_cases c : room = irg v d
      · rw [decide_eq_true c]
        rfl
      · have hU := ((mem_roomsU ho).mp hR).resolve_right c
        have z := (abv_iff ho hPl hne).mpr hU.2.2.2
        rw [decide_eq_false (show ¬ _ > _ by omega)]
        simp
    have hxR : x ∈ room := List.mem_of_getElem? hx
    have hfe : room.filter (fun q => decide (q ≠ x)) = room.eraseIdx a := filt_erase hnd hx
    have hal := (List.getElem?_eq_some_iff.mp hx).1
    have hFl : (room.eraseIdx a).length = d - 1 := by rw [List.length_eraseIdx_of_lt hal, hlen]
    have hFP : AllPl d v (room.eraseIdx a) := fun q hq => hPl q ((List.eraseIdx_sublist _ _).subset hq)
    have hexg : ∀ z : Int, sortI (room.filter (fun q => decide (q ≠ x)) ++ [z]) = ins (room.eraseIdx a) z := fun z => by rw [hfe]; rfl
    generalize hF2 : room.eraseIdx a = G at *
    cases way with
    | own hw i hi hxi hy =>
      obtain ⟨o, g1, g2, _, _⟩ := row_at ho hi
      have hone : o ≠ [] := fun z => by
        have := ho.olen g2
        rw [z] at this
        have h0 : 0 = v := this
        omega
      have a0 : atI (os.map (sqI t)) ((i : Nat) : Int) = some (sqI t o) := atI_map g1
      have hy2 : y = o.getLastD 0 := by rw [hy]; unfold lstF; rw [List.getD_eq_getElem?_getD, g1]; rfl
      exact ⟨_, ss_cons (s_setT hF (x_call C1 hF (by decide) (xa_cons (xv 0 hF) xa_nil) rfl ⟨t, os, d, v, rfl, ho, rfl⟩) (gs_cons (g_name 3 hF) (gs_cons (g_name 4 hF) gs_nil))) (ss_cons (s_set 5 hF (XE.pub (x_call C2 hF (by decide) (xa_cons (xv 0 hF) xa_nil) rfl ⟨t, os, d, v, rfl, ho, rfl⟩))) (ss_cons (s_set 6 hF (x_call C3 hF (by decide) (xa_cons (xv 0 hF) xa_nil) rfl ⟨t, os, d, v, rfl, ho, rfl⟩)) (ss_cons (s_ifN (XB.is (b_w (w_or (XB.is (b_cm (cm_neS (x_call Cf hF (by decide) (xa_cons (XD.is (da := nD (v + d)) (x_add (xv 4 hF) (xv 3 hF)) (by congr 1)) (xa_cons (xv 3 hF) (xa_cons (xv 1 hF) xa_nil))) rfl ⟨((v + d : Nat) : Int), ((d : Nat) : Int), room, rfl, hl, .inl ⟨by omega, hrange, hnd, rfl⟩⟩) x_str)) (decide_eq_false fun z => z rfl)) fun _ => w_or1 (XB.is (b_cm (cm_neD hF (XE.pub (o_list T.list hF (q_of (xv 1 hF)))) (XE.pub (XE.is (o_sorted T.sorted hF (q_of (xv 1 hF)) (ok_ints (by omega))) (by rw [sort_ints]))) (flat_sqI false room) (flat_sqI false (sortI room)) (shaped_sqI false room) (shaped_sqI false (sortI room)))) hsrt))) rfl)) (ss_cons (s_ifN (XB.is (b_w (w_and (XB.is (b_cm (cm_neD hF (xv 1 hF) (xv 6 hF) (flat_sqI true room) (flat_sqI true (irg v d)) (shaped_sqI true room) (shaped_sqI true (irg v d)))) hown) fun _ => w_and1 (b_cm (cm_gt (x_lenM T.len hF (q_of (x_call C4 hF (by decide) (xa_cons (xv 5 hF) (xa_cons (xv 1 hF) xa_nil)) rfl ⟨fulls os d v, room, rfl, hrows, by omega, hexr, rfl⟩))) x_int)))) (by simpa using hif2))) (ss_cons (s_ifN (XB.is (b_cm (cm_notIn hF (xv 2 hF) (q_of (xv 1 hF)))) (by rw [decide_eq_true hxR]; rfl))) (ss_stop (s_ifT (XB.is (b_cm (cm_eqD hF (xv 1 hF) (xv 6 hF) (flat_sqI true room) (flat_sqI true (irg v d)) (shaped_sqI true room) (shaped_sqI true (irg v d)))) (by rw [eqv_sqI]; exact decide_eq_true hw)) (ss_one (s_ret (x_call Ce hF (by decide) (xa_cons (xv 1 hF) (xa_cons (xv 2 hF) (xa_cons (XD.is (da := .int y) (x_ix hF (q_of (x_ix hF (q_of (xv 0 hF)) (XD.is (da := nD i) (x_sub (xv 2 hF) (xv 4 hF)) (by congr 1; omega)) a0)) (x_neg x_int) (atI_last hone)) (by rw [hy2])) xa_nil))) rfl ⟨room, x, y, rfl, hl, by rw [hexg]⟩)))))))))), .rt _⟩
    | toOwn hw hth hown2 =>
      have hz : (G.filter fun p => decide (p < ((v : Nat) : Int))) = [] := List.filter_eq_nil_iff.mpr fun p hp z => hth p hp (of_decide_eq_true z)
      exact ⟨_, ss_cons (s_setT hF (x_call C1 hF (by decide) (xa_cons (xv 0 hF) xa_nil) rfl ⟨t, os, d, v, rfl, ho, rfl⟩) (gs_cons (g_name 3 hF) (gs_cons (g_name 4 hF) gs_nil))) (ss_cons (s_set 5 hF (XE.pub (x_call C2 hF (by decide) (xa_cons (xv 0 hF) xa_nil) rfl ⟨t, os, d, v, rfl, ho, rfl⟩))) (ss_cons (s_set 6 hF (x_call C3 hF (by decide) (xa_cons (xv 0 hF) xa_nil) rfl ⟨t, os, d, v, rfl, ho, rfl⟩)) (ss_cons (s_ifN (XB.is (b_w (w_or (XB.is (b_cm (cm_neS (x_call Cf hF (by decide) (xa_cons (XD.is (da := nD (v + d)) (x_add (xv 4 hF) (xv 3 hF)) (by congr 1)) (xa_cons (xv 3 hF) (xa_cons (xv 1 hF) xa_nil))) rfl ⟨((v + d : Nat) : Int), ((d : Nat) : Int), room, rfl, hl, .inl ⟨by omega, hrange, hnd, rfl⟩⟩) x_str)) (decide_eq_false fun z => z rfl)) fun _ => w_or1 (XB.is (b_cm (cm_neD hF (XE.pub (o_list T.list hF (q_of (xv 1 hF)))) (XE.pub (XE.is (o_sorted T.sorted hF (q_of (xv 1 hF)) (ok_ints (by omega))) (by rw [sort_ints]))) (flat_sqI false room) (flat_sqI false (sortI room)) (shaped_sqI false room) (shaped_sqI false (sortI room)))) hsrt))) rfl)) (ss_cons (s_ifN (XB.is (b_w (w_and (XB.is (b_cm (cm_neD hF (xv 1 hF) (xv 6 hF) (flat_sqI true room) (flat_sqI true (irg v d)) (shaped_sqI true room) (shaped_sqI true (irg v d)))) hown) fun _ => w_and1 (b_cm (cm_gt (x_lenM T.len hF (q_of (x_call C4 hF (by decide) (xa_cons (xv 5 hF) (xa_cons (xv 1 hF) xa_nil)) rfl ⟨fulls os d v, room, rfl, hrows, by omega, hexr, rfl⟩))) x_int)))) (by simpa using hif2))) (ss_cons (s_ifN (XB.is (b_cm (cm_notIn hF (xv 2 hF) (q_of (xv 1 hF)))) (by rw [decide_eq_true hxR]; rfl))) (ss_cons (s_ifN (XB.is (b_cm (cm_eqD hF (xv 1 hF) (xv 6 hF) (flat_sqI true room) (flat_sqI true (irg v d)) (shaped_sqI true room) (shaped_sqI true (irg v d)))) (by rw [eqv_sqI]; exact decide_eq_false hw))) (ss_cons (s_set 7 hF (XD.is (da := tI G) (x_call Cw hF (by decide) (xa_cons (xv 1 hF) (xa_cons (xv 2 hF) xa_nil)) rfl ⟨room, x, rfl, hl, rfl⟩) (by rw [hfe]))) (ss_stop (s_ifT (XB.is (b_cm (cm_eq (x_lenM T.len hF (q_mL (o_lcf [13] [("place", 13)] (defScope (top 35)) G .int (fun p => decide (p < ((v : Nat) : Int))) .int hF (i_sq hF (xv 7 hF)) (by omega) fun hB p hp => ⟨_, g_name 13 hB, t_one (b_cm (cm_lt (xv 13 hB) (xv 4 hB))), fun _ => xv 13 hB⟩))) x_int)) (decide_eq_true (by rw [hz]; rfl))) (ss_one (s_ret (XD.is (xv 6 hF) (by rw [hown2]))))))))))))), .rt _⟩
    | piv hw q hq hqv i j hi hj hxi hz hy =>
      have K := rk ho
      have hU := ((mem_roomsU ho).mp hR).resolve_right hw
      have hGne : G ≠ [] := List.ne_nil_of_mem hq
      have hexG := meets hGne hFP
      have hln : (leastR (fulls os d v) room).Nodup := (least_perm ho ((mem_ub ho).mpr hU)).nodup_iff.mp hnd
      have hlget : ∀ k, k < d → (leastR (fulls os d v) room)[k]? = some (mnF os d v k room) := fun k hk => by rw [← lr_least os d v ho, lr_get hk]
      have hidx : ∀ k z, k < d → mnF os d v k room = z → z ∈ leastR (fulls os d v) room ∧ (leastR (fulls os d v) room).idxOf z = k := fun k z hk e => by
        have h := hlget k hk
        rw [e] at h
        obtain ⟨b1, b2⟩ := List.getElem?_eq_some_iff.mp h
        refine ⟨List.mem_of_getElem? h, ?_⟩
        rw [← b2]
        exact List.Nodup.idxOf_getElem hln _ b1
      obtain ⟨oi, _, _, ei, gi⟩ := row_at ho hi
      obtain ⟨oj, _, _, ej, gj⟩ := row_at ho hj
      have gi2 : (fulls os d v)[i]? = some ((fulls os d v).getD i []) := by rw [ei]; exact gi
      have gj2 : (fulls os d v)[j]? = some ((fulls os d v).getD j []) := by rw [ej]; exact gj
      have hri := hexG _ (row_mem ho hi)
      have hrj := hexG _ (row_mem ho hj)
      have ai : atI ((fulls os d v).map Dat.row) ((i : Nat) : Int) = some (.row ((fulls os d v).getD i [])) := atI_map gi2
      have aj : atI ((fulls os d v).map Dat.row) ((j : Nat) : Int) = some (.row ((fulls os d v).getD j [])) := atI_map gj2
      obtain ⟨i1, i2⟩ := hidx i x hi hxi
      obtain ⟨j1, j2⟩ := hidx j (mnF os d v i G) hj hz.symm
      have hGz : (G.filter fun p => decide (p < ((v : Nat) : Int))) ≠ [] := List.ne_nil_of_mem (List.mem_filter.mpr ⟨hq, decide_eq_true hqv⟩)
      have hGz2 := List.length_pos_iff.mpr hGz
      have hd2 : 2 ≤ d := by have := List.length_pos_of_mem hq; omega
      have hel : ((fulls os d v).eraseIdx j).length = d - 1 := by rw [List.length_eraseIdx_of_lt (by omega), hrl]
      have hene : (fulls os d v).eraseIdx j ≠ [] := List.ne_nil_of_length_pos (by omega)
      have hcne : (((fulls os d v).getD j []).filter fun w => decide (w ∈ abvAll ((fulls os d v).eraseIdx j) G)) ≠ [] := by
        have hw2 : Pl d v ((v : Int) + j) := ⟨by omega, by omega⟩
        refine List.ne_nil_of_mem (a := (v : Int) + j) (List.mem_filter.mpr ⟨(full_perm ho (row_mem ho hj)).mem_iff.mpr (pl_irg.mp hw2), decide_eq_true ?_⟩)
        rw [mem_all hene]
        intro r hr
        obtain ⟨k, hkj, g⟩ := List.mem_eraseIdx_iff_getElem?.mp hr
        have hk : k < d := by rw [← hrl]; exact (List.getElem?_eq_some_iff.mp g).1
        have e : (fulls os d v).getD k [] = r := by rw [List.getD_eq_getElem?_getD, g]; rfl
        have hrm := row_mem ho hk
        rw [e] at hrm
        have hperm := full_perm ho hrm
        unfold abvP
        rw [mem_drop_idx (hperm.nodup_iff.mpr (irg_nodup _ _)) (hperm.mem_iff.mpr (pl_irg.mp hw2))]
        obtain ⟨u, hu, lt⟩ := K.own_above hq (hFP q hq).1 hqv hj k hk hkj
        have m2 := (K.mnS k hk G hGne hFP).2 u hu
        unfold rho at lt m2
        unfold mnF at m2
        rw [e] at lt m2
        exact Nat.lt_of_le_of_lt m2 lt
      have hr1 := hrj.1
      refine ⟨_, ss_cons (s_setT hF (x_call C1 hF (by decide) (xa_cons (xv 0 hF) xa_nil) rfl ⟨t, os, d, v, rfl, ho, rfl⟩) (gs_cons (g_name 3 hF) (gs_cons (g_name 4 hF) gs_nil))) (ss_cons (s_set 5 hF (XE.pub (x_call C2 hF (by decide) (xa_cons (xv 0 hF) xa_nil) rfl ⟨t, os, d, v, rfl, ho, rfl⟩))) (ss_cons (s_set 6 hF (x_call C3 hF (by decide) (xa_cons (xv 0 hF) xa_nil) rfl ⟨t, os, d, v, rfl, ho, rfl⟩)) (ss_cons (s_ifN (XB.is (b_w (w_or (XB.is (b_cm (cm_neS (x_call Cf hF (by decide) (xa_cons (XD.is (da := nD (v + d)) (x_add (xv 4 hF) (xv 3 hF)) (by congr 1)) (xa_cons (xv 3 hF) (xa_cons (xv 1 hF) xa_nil))) rfl ⟨((v + d : Nat) : Int), ((d : Nat) : Int), room, rfl, hl, .inl ⟨by omega, hrange, hnd, rfl⟩⟩) x_str)) (decide_eq_false fun z => z rfl)) fun _ => w_or1 (XB.is (b_cm (cm_neD hF (XE.pub (o_list T.list hF (q_of (xv 1 hF)))) (XE.pub (XE.is (o_sorted T.sorted hF (q_of (xv 1 hF)) (ok_ints (by omega))) (by rw [sort_ints]))) (flat_sqI false room) (flat_sqI false (sortI room)) (shaped_sqI false room) (shaped_sqI false (sortI room)))) hsrt))) rfl)) (ss_cons (s_ifN (XB.is (b_w (w_and (XB.is (b_cm (cm_neD hF (xv 1 hF) (xv 6 hF) (flat_sqI true room) (flat_sqI true (irg v d)) (shaped_sqI true room) (shaped_sqI true (irg v d)))) hown) fun _ => w_and1 (b_cm (cm_gt (x_lenM T.len hF (q_of (x_call C4 hF (by decide) (xa_cons (xv 5 hF) (xa_cons (xv 1 hF) xa_nil)) rfl ⟨fulls os d v, room, rfl, hrows, by omega, hexr, rfl⟩))) x_int)))) (by simpa using hif2))) (ss_cons (s_ifN (XB.is (b_cm (cm_notIn hF (xv 2 hF) (q_of (xv 1 hF)))) (by rw [decide_eq_true hxR]; rfl))) (ss_cons (s_ifN (XB.is (b_cm (cm_eqD hF (xv 1 hF) (xv 6 hF) (flat_sqI true room) (flat_sqI true (irg v d)) (shaped_sqI true room) (shaped_sqI true (irg v d)))) (by rw [eqv_sqI]; exact decide_eq_false hw))) (ss_cons (s_set 7 hF (XD.is (da := tI G) (x_call Cw hF (by decide) (xa_cons (xv 1 hF) (xa_cons (xv 2 hF) xa_nil)) rfl ⟨room, x, rfl, hl, rfl⟩) (by rw [hfe]))) (ss_cons (s_ifN (XB.is (b_cm (cm_eq (x_lenM T.len hF (q_mL (o_lcf [13] [("place", 13)] (defScope (top 35)) G .int (fun p => decide (p < ((v : Nat) : Int))) .int hF (i_sq hF (xv 7 hF)) (by omega) fun hB p hp => ⟨_, g_name 13 hB, t_one (b_cm (cm_lt (xv 13 hB) (xv 4 hB))), fun _ => xv 13 hB⟩))) x_int)) (decide_eq_false (by omega)))) (ss_cons (s_setLcm 8 [14] [("row", 14)] (defScope (top 35)) (fulls os d v) .row (fun r => .int (fstP r room)) hF (i_sq hF (xv 5 hF)) (by omega) fun hB r hr => ⟨_, g_name 14 hB, x_call C5 hB (by decide) (xa_cons (xv 14 hB) (xa_cons (xv 1 hB) xa_nil)) rfl ⟨r, room, rfl, (hexr r hr).1, (hexr r hr).2, rfl⟩⟩) (ss_cons (s_set 9 hF (x_call C5 hF (by decide) (xa_cons (x_ix hF (q_of (xv 5 hF)) (XD.is (da := nD i) (x_indexL hF (XQ.is (ds' := (leastR (fulls os d v) room).map .int) (q_var 8 hF) (by unfold leastR; rw [List.map_map]; rfl)) (xv 2 hF) i1) (by rw [i2])) ai) (xa_cons (xv 7 hF) xa_nil)) rfl ⟨(fulls os d v).getD i [], G, rfl, hri.1, hri.2, rfl⟩)) (ss_cons (s_set 10 hF (XD.is (da := nD j) (x_indexL hF (XQ.is (ds' := (leastR (fulls os d v) room).map .int) (q_var 8 hF) (by unfold leastR; rw [List.map_map]; rfl)) (xv 9 hF) j1) (by rw [j2]))) (ss_cons (s_set 11 hF (x_call C4 hF (by decide) (xa_cons (XD.is (da := rowsD ((fulls os d v).eraseIdx j)) (XE.pub (o_catL hF (q_mL (o_slL hF (q_of (xv 5 hF)) o_none (o_some (xv 10 hF)))) (q_mL (o_slL hF (q_of (xv 5 hF)) (o_some (x_add (xv 10 hF) x_int)) o_none)) ?_)) ?_) (xa_cons (xv 7 hF) xa_nil)) rfl ⟨(fulls os d v).eraseIdx j, G, rfl, hene, by omega, fun r hr => hexG r ((List.eraseIdx_sublist _ _).subset hr), rfl⟩)) (ss_cons (s_set 12 hF (XD.is (da := .int y) (x_ix hF (q_mL (o_lcf [13] [("place", 13)] (defScope (top 35)) ((fulls os d v).getD j []) .int (fun p => decide (p ∈ abvAll ((fulls os d v).eraseIdx j) G)) .int hF (i_row hF (x_ix hF (q_of (xv 5 hF)) (xv 10 hF) aj)) (by omega) fun hB p hp => ⟨_, g_name 13 hB, t_one (b_cm (cm_in hB (xv 13 hB) (q_of (xv 11 hB)))), fun _ => xv 13 hB⟩)) (x_neg x_int) (atI_last hcne)) (by rw [hy]; rfl))) (ss_one (s_ret (x_call Ce hF (by decide) (xa_cons (xv 1 hF) (xa_cons (xv 2 hF) (xa_cons (xv 12 hF) xa_nil))) rfl ⟨room, x, y, rfl, hl, by rw [hexg]⟩)))))))))))))))), .rt _⟩
      · have hc : ∀ (lo hi : Option Int), (FX.cutD ((fulls os d v).map Dat.row) lo hi).length ≤ 1000 := fun lo hi => by
          unfold FX.cutD
          rw [List.length_take, List.length_drop, List.length_map]
          omega
        have := hc none (some (j : Int))
        have := hc (some ((j : Int) + 1)) none
        omega
      · rw [cut_to, show ((j : Nat) : Int) + 1 = ((j + 1 : Nat) : Int) by omega, cut_from, List.eraseIdx_eq_take_drop_succ]
        show _ = Dat.sq false (List.map Dat.row (_ ++ _))
        rw [List.map_append, List.map_take, List.map_drop]
end K84
/-! part D15 -/
set_option Elab.async false
set_option linter.all false
set_option maxRecDepth 100000
set_option maxHeartbeats 4000000
namespace K84
open PySem PySem.Spec PyProof.Rows L2 Evl FX M84
variable {W : Wd}
theorem sc_refused : FnScope ["orders", "room", "leaving", "stranger", "missed"] ["orders", "room", "leaving"] (defScope (top 50)) := ⟨rfl, rfl, rfl, by decide +kernel, rfl, by decide +kernel, by decide +kernel⟩
def Rrefused : List Dat → Sl → Prop := fun ds s => ∃ (t : Bool) (os : List (List Int)) (d v : Nat) (room : List Int) (x : Int), ds = [ordD t os, tI room, .int x] ∧ Ords os d v ∧ room.length ≤ 1000 ∧
  ((room.length ≠ d ∧ s = .dat (.sq true [.str "room", tI room])) ∨
   (room.length = d ∧ (∀ p ∈ room, 0 ≤ p ∧ p < ((v + d : Nat) : Int)) ∧ room.Nodup ∧ room ≠ sortI room ∧ s = .dat (.sq true [.str "room", tI room])) ∨
   (isRoom (v + d) d room ∧ room ∉ roomsU os d v ∧ s = .dat (.sq true [.str "room", tI room])) ∨
   (room ∈ roomsU os d v ∧ x ∉ room ∧ s = .dat (.sq true [.str "fault", .str "leaving"])) ∨
   (room ∈ roomsU os d v ∧ x ∈ room ∧ s = .dat .non))
theorem ok_refused {CN CM : Addr} (EN : ExC W "NotARoom" CN "room") (EM : ExC W "Mismatch" CM "fault") (mNN : PySem.W.exmOne W.K (.ref CN) (.ref CN) = some true) (mMN : PySem.W.exmOne W.K (.ref CM) (.ref CN) = some false) (mMM : PySem.W.exmOne W.K (.ref CM) (.ref CM) = some true)
    (Co : FnX W "other_unbeaten" 4 3 (Rother CN CM)) (D : HasDef W "_law_refused" 50) : Fn W "_law_refused" 5 3 Rrefused := by
  refine fn_mk D sc_refused rfl (fun _ _ _ _ _ _ us hl => match us, hl with | [_, _, _], _ => rfl) fun f cdv A outer s0 H E hF ds r hR _ => ?_
  obtain ⟨t, os, d, v, room, x, rfl, ho, hl, hR⟩ := hR
  have hT := trF_fam hF
  have hN : (bodyF W ["orders", "room", "leaving", "stranger", "missed"] "_law_refused" (defScope (top 50)) f cdv A outer s0 H E ()).N[3]? = some ("stranger" : Str) := rfl
  have hh : ∃ h₀ hds, (defBody (top 50)).head? = some (.Try [.Expr (.Call (.Name "other_unbeaten" ⟨440, 8, 440, 22⟩) [.Name "orders" ⟨440, 23, 440, 29⟩, .Name "room" ⟨440, 31, 440, 35⟩, .Name "leaving" ⟨440, 37, 440, 44⟩] [] ⟨440, 8, 440, 45⟩) ⟨440, 8, 440, 45⟩] (h₀ :: hds) [] [] ⟨439, 4, 444, 38⟩) ∧
      HdsAs (bodyF W ["orders", "room", "leaving", "stranger", "missed"] "_law_refused" (defScope (top 50)) f cdv A outer s0 H E ()) (h₀ :: hds) [(.ref CN, 3, tsH 3 CN "room" "room"), (.ref CM, 4, tsH 4 CM "fault" "fault")] :=
    ⟨_, _, rfl, .cons ⟨rfl, by decide, .inl EN.gl⟩ rfl rfl (psH EN.xf EN.no rfl (.inl rfl) (by decide) (by decide) rfl rfl rfl) (.cons ⟨rfl, by decide, .inl EM.gl⟩ rfl rfl (psH EM.xf EM.no rfl (.inl rfl) (by decide) (by decide) rfl rfl rfl) .nil)⟩
  obtain ⟨h₀, hds, hb, hh⟩ := hh
  have ha : XA (trF (bodyF W ["orders", "room", "leaving", "stranger", "missed"] "_law_refused" (defScope (top 50)) f cdv A outer s0 H E ())) [.Name "orders" ⟨440, 23, 440, 29⟩, .Name "room" ⟨440, 31, 440, 35⟩, .Name "leaving" ⟨440, 37, 440, 44⟩] (gam ["orders", "room", "leaving", "stranger", "missed"] [ordD t os, tI room, .int x]) [ordD t os, tI room, .int x] :=
    xa_cons (xv 0 hT) (xa_cons (xv 1 hT) (xa_cons (xv 2 hT) xa_nil))
  have hbody : defBody (top 50) = [.Try [.Expr (.Call (.Name "other_unbeaten" ⟨440, 8, 440, 22⟩) [.Name "orders" ⟨440, 23, 440, 29⟩, .Name "room" ⟨440, 31, 440, 35⟩, .Name "leaving" ⟨440, 37, 440, 44⟩] [] ⟨440, 8, 440, 45⟩) ⟨440, 8, 440, 45⟩] (h₀ :: hds) [] [] ⟨439, 4, 444, 38⟩, .Return (some (.Constant .none 0 ⟨445, 11, 445, 15⟩)) ⟨445, 4, 445, 15⟩] := by
    have e : defBody (top 50) = ((defBody (top 50)).head?.getD dummy) :: [.Return (some (.Constant .none 0 ⟨445, 11, 445, 15⟩)) ⟨445, 4, 445, 15⟩] := rfl
    rw [e, hb]
    rfl
  rw [hbody]
  rcases hR with ⟨c1, rfl⟩ | ⟨c1, c2, c3, c4, rfl⟩ | ⟨c1, c2, rfl⟩ | ⟨c1, c2, rfl⟩ | ⟨c1, c2, rfl⟩
  · exact ⟨_, ss_stop (s_try_1 Co hF rfl rfl (by decide) ha rfl ⟨t, os, d, v, room, x, rfl, ho, hl, .inl ⟨c1, rfl⟩⟩ hh mNN (Nat.le_of_ble_eq_true rfl) rfl (by decide) rfl rfl rfl), .rt _⟩
  · exact ⟨_, ss_stop (s_try_1 Co hF rfl rfl (by decide) ha rfl ⟨t, os, d, v, room, x, rfl, ho, hl, .inr (.inl ⟨c1, c2, c3, c4, rfl⟩)⟩ hh mNN (Nat.le_of_ble_eq_true rfl) rfl (by decide) rfl rfl rfl), .rt _⟩
  · exact ⟨_, ss_stop (s_try_1 Co hF rfl rfl (by decide) ha rfl ⟨t, os, d, v, room, x, rfl, ho, hl, .inr (.inr (.inl ⟨c1, c2, rfl⟩))⟩ hh mNN (Nat.le_of_ble_eq_true rfl) rfl (by decide) rfl rfl rfl), .rt _⟩
  · exact ⟨_, ss_stop (s_try_2 Co hF rfl rfl (by decide) ha rfl ⟨t, os, d, v, room, x, rfl, ho, hl, .inr (.inr (.inr (.inl ⟨c1, c2, rfl⟩)))⟩ hh mMN mMM (Nat.le_of_ble_eq_true rfl) rfl (by decide) rfl rfl rfl), .rt _⟩
  · obtain ⟨a, ha2, hae⟩ := List.mem_iff_getElem.mp c2
    have hg : room[a]? = some x := by rw [List.getElem?_eq_getElem ha2, hae]
    obtain ⟨y, _, _, _, _, _, way⟩ := other ho c1 hg
    exact ⟨_, ss_cons (s_try_ok Co hF rfl rfl (by decide) ha rfl ⟨t, os, d, v, room, x, rfl, ho, hl, .inr (.inr (.inr (.inr ⟨a, y, c1, hg, way, rfl⟩)))⟩ hh rfl (by decide) rfl rfl rfl) (ss_one (s_ret x_non)), .rt _⟩
end K84
/-! part D16 -/
set_option Elab.async false
set_option linter.all false
set_option maxRecDepth 100000
set_option maxHeartbeats 4000000
namespace K84
open PySem PySem.Spec PyProof.Rows L2 Evl FX M84
variable {W : Wd}
theorem face_ins {F : List Int} {y : Int} (hF : F.Pairwise (· < ·)) (hy : y ∉ F) : F ∈ fcs (ins F y) := by
  have hSa := ins_asc (asc_nodup hF) hy
  obtain ⟨b, hb, hbe⟩ := List.mem_iff_getElem.mp (ins_mem.mpr (List.mem_cons_self (a := y) (l := F)))
  have hbg : (ins F y)[b]? = some y := by rw [List.getElem?_eq_getElem hb, hbe]
  refine fcs_iff.mpr ⟨b, hb, asc_eq (hSa.sublist (List.eraseIdx_sublist _ _)) hF fun q => ?_⟩
  rw [← filt_erase (asc_nodup hSa) hbg, List.mem_filter, decide_eq_true_iff, ins_mem, List.mem_cons]
  constructor
  · rintro ⟨h1, h2⟩
    exact h1.resolve_left h2
  · exact fun h => ⟨.inr h, fun z => hy (z ▸ h)⟩
theorem sc_facesr : FnScope ["orders", "whole", "table", "room", "k", "others", "other"] ["orders", "whole"] (defScope (top 51)) := ⟨rfl, rfl, rfl, by decide +kernel, rfl, by decide +kernel, by decide +kernel⟩
def Rfacesr : List Dat → Sl → Prop := fun ds s => ∃ (t : Bool) (os : List (List Int)) (d v : Nat), ds = [ordD t os, rmsD (sortR (roomsU os d v))] ∧ Ords os d v ∧ s = .dat (.bl true)
theorem ok_facesr {CN CM : Addr} (T : Bi W) (Ct : Fn W "_law_table" 1 1 Rtable) (Cs : Fn W "_law_same" 2 2 (Rsame 1)) (Co : FnX W "other_unbeaten" 4 3 (Rother CN CM)) (D : HasDef W "_law_faces_right" 51) : Fn W "_law_faces_right" 5 2 Rfacesr := by
  refine fn_mk D sc_facesr rfl (fun _ _ _ _ _ _ us hl => match us, hl with | [_, _], _ => rfl) fun f cdv A outer s0 H E hF ds r hR _ => ?_
  obtain ⟨t, os, d, v, rfl, ho, rfl⟩ := hR
  have h2 := ho.d4
  have h4 := ho.v8
  have hP := uc_paired ho
  have hll : (sortR (roomsU os d v)).length ≤ 4097 := by rw [(sortR_perm _).length_eq]; exact roomsU_len ho
  have hroom : ∀ r ∈ sortR (roomsU os d v), isRoom (v + d) d r := fun r hr => roomsU_room ho ((sortR_perm _).mem_iff.mp hr)
  refine ⟨_, ss_cons (s_set 2 hF (x_call Ct hF (by decide) (xa_cons (xv 1 hF) xa_nil) rfl ⟨sortR (roomsU os d v), rfl, by omega, fun r hr => by rw [(hroom r hr).1]; omega, rfl⟩))
    (ss_cons (s_forM (l := sortR (roomsU os d v)) (enc := tI) [3] (fun _ => [.dat (ordD t os), .dat (rmsD (sortR (roomsU os d v))), .mD (encK rmsD (tabL ((sortR (roomsU os d v)).flatMap pairsOf))), .no, .no, .no, .no]) hF (i_sq hF (xv 1 hF)) (.same (.same (.same (.same (.same (.same (.same .nil))))))) ?_) (ss_one (s_ret x_bl))), .rt _⟩
  intro j room hj
  have hm := List.mem_of_getElem? hj
  have hmU := (sortR_perm _).mem_iff.mp hm
  obtain ⟨hlen, hrange, hasc⟩ := hroom room hm
  refine ⟨_, _, g_name 3 hF, ss_one (s_forN (n := room.length) [4] (fun _ => [.dat (ordD t os), .dat (rmsD (sortR (roomsU os d v))), .mD (encK rmsD (tabL ((sortR (roomsU os d v)).flatMap pairsOf))), .dat (tI room), .no, .no, .no]) hF (i_rngN T.range hF (x_lenM T.len hF (q_of (xv 3 hF))) (by omega)) (.same (.same (.same (.same (.drop (.drop (.drop .nil))))))) ?_), _, .inl rfl, .same (.same (.same (.drop (.drop (.drop (.drop .nil))))))⟩
  intro k hk
  have hx : room[k]? = some room[k] := List.getElem?_eq_getElem hk
  obtain ⟨y, y1, y2, y3, _, _, way⟩ := other ho hmU hx
  have hFa : (room.eraseIdx k).Pairwise (· < ·) := hasc.sublist (List.eraseIdx_sublist _ _)
  have hyF : y ∉ room.eraseIdx k := fun h => y2 ((List.eraseIdx_sublist _ _).subset h)
  have hS := (sortR_perm _).mem_iff.mpr y3
  have hne : ins (room.eraseIdx k) y ≠ room := fun z => y2 (by rw [← z]; exact ins_mem.mpr List.mem_cons_self)
  have hot := hP.others hm hk hS hne (face_ins hFa hyF)
  have hv := tab_val (fun R hR => asc_nodup (hP.asc R hR)) hm hk
  have hvd : valD (encK rmsD (tabL ((sortR (roomsU os d v)).flatMap pairsOf))) (room.eraseIdx k) = some (rmsD ((sortR (roomsU os d v)).filter fun S => decide (room.eraseIdx k ∈ fcs S))) := by
    rw [valD_enc, hv]
    rfl
  have hfl := List.length_filter_le (fun S => decide (room.eraseIdx k ∈ fcs S)) (sortR (roomsU os d v))
  have hil : (ins (room.eraseIdx k) y).length ≤ 100 := by
    rw [(hroom _ hS).1]
    omega
  have a0 : atI ([ins (room.eraseIdx k) y].map tI) 0 = some (tI (ins (room.eraseIdx k) y)) := rfl
  have ak : atI (room.map Dat.int) ((k : Nat) : Int) = some (.int room[k]) := atI_map hx
  refine ⟨_, _, g_name 4 hF, ss_cons (XS.is (o' := .nx [.dat (ordD t os), .dat (rmsD (sortR (roomsU os d v))), .mD (encK rmsD (tabL ((sortR (roomsU os d v)).flatMap pairsOf))), .dat (tI room), .dat (nD k), .mL ([ins (room.eraseIdx k) y].map tI), .no]) (s_setLcf 5 [6] [("other", 6)] (defScope (top 51)) ((sortR (roomsU os d v)).filter fun S => decide (room.eraseIdx k ∈ fcs S)) tI (fun S => decide (S ≠ room)) tI hF
      (i_sq hF (x_dget (key := room.eraseIdx k) hF (k_var 2 hF) (XD.is (da := tI (room.eraseIdx k)) (x_catT hF (x_slT hF (xv 3 hF) o_none (o_some (xv 4 hF))) (x_slT hF (xv 3 hF) (o_some (x_add (xv 4 hF) x_int)) o_none) ?_) ?_) hvd)) (by omega)
      fun hB S hS => ⟨_, g_name 6 hB, t_one (XB.is (b_cm (cm_neD hB (xv 6 hB) (xv 3 hB) (flat_sqI true S) (flat_sqI true room) (shaped_sqI true S) (shaped_sqI true room))) ?_), fun _ => xv 6 hB⟩) (by rw [hot]; rfl))
    (ss_one (s_ifN (XB.is (b_w (w_or (XB.is (b_cm (cm_ne (x_lenM T.len hF (q_var 5 hF)) x_int)) (decide_eq_false fun z => z rfl)) fun _ => w_or1 (b_not (b_val (x_call Cs hF (by decide) (xa_cons
      (x_callX Co hF (by decide) (xa_cons (xv 0 hF) (xa_cons (xv 3 hF) (xa_cons (x_ix hF (q_of (xv 3 hF)) (xv 4 hF) ak) xa_nil))) rfl ⟨t, os, d, v, room, room[k], rfl, ho, by omega, .inr (.inr (.inr (.inr ⟨k, y, hmU, hx, way, rfl⟩)))⟩)
      (xa_cons (x_ix hF (q_var 5 hF) x_int a0) xa_nil)) rfl ⟨_, _, rfl, same_ints (by omega), rfl⟩))))) rfl))), _, .inl rfl, .same (.same (.same (.same (.drop (.drop (.drop .nil))))))⟩
  · have hc : ∀ (lo hi : Option Int), (FX.cutD (room.map Dat.int) lo hi).length ≤ 1000 := fun lo hi => by
      unfold FX.cutD
      rw [List.length_take, List.length_drop, List.length_map]
      omega
    have := hc none (some (k : Int))
    have := hc (some ((k : Int) + 1)) none
    omega
  · rw [cut_to, show ((k : Nat) : Int) + 1 = ((k + 1 : Nat) : Int) by omega, cut_from, take_drop_erase _ _ (by rw [List.length_map]; exact hk), map_erase]
  · rw [eqv_sqI]
    by_cases c : S = room
    · rw [decide_eq_true c, decide_eq_false (fun z => z c)]
      rfl
    · rw [decide_eq_false c, decide_eq_true c]
      rfl
end K84
/-! part D17 -/
set_option Elab.async false
set_option linter.all false
set_option maxRecDepth 100000
set_option maxHeartbeats 4000000
namespace K84
open PySem PySem.Spec PyProof.Rows L2 Evl FX M84
theorem py_rowsL (rs : List (List Int)) : (rmsD rs).py = .list (rs.map fun r => .tuple (r.map .int)) := by
  rw [Dat.py, pyAll_map, List.map_map]
  exact congrArg PyData.list (List.map_congr_left fun r _ => py_tI r)
theorem shaped_rowsL (rs : List (List Int)) : SeqAt.shaped (rmsD rs).py = true := by
  have h := shaped_rows rs
  unfold SeqAt.shaped at h ⊢
  rw [py_rows, PyData.canLay0, PyData.depth] at h
  rw [py_rowsL, PyData.canLay0, PyData.depth]
  exact h
theorem any_rows (r : List Int) : ∀ rs : List (List Int), ((rs.map fun r => PyData.tuple (r.map .int)).any fun z => PyData.eqv z (.tuple (r.map .int))) = decide (r ∈ rs)
  | [] => rfl
  | q :: rs => by
    rw [List.map_cons, List.any_cons, any_rows r rs, PyData.eqv, eqv_ints]
    by_cases c : q = r
    · rw [decide_eq_true c, Bool.true_or, decide_eq_true (by rw [c]; exact List.mem_cons_self)]
    · rw [decide_eq_false c, Bool.false_or]
      refine decide_eq_decide.mpr ?_
      rw [List.mem_cons]
      exact ⟨.inr, fun h => h.resolve_left fun z => c z.symm⟩
theorem cm_notInR {ι : Type} {W : Wd} {k : Nat} {N : List Str} {F : ι → Cx} {Γ : List Sl} {a b : Expr} {r : List Int} {rs : List (List Int)} (hF : Fam W k N F) (ha : XD F a Γ (tI r)) (hb : XD F b Γ (rmsD rs)) (hm : behindInMarks .NotIn b = false := by rfl) : Cm F Γ .NotIn a b (!decide (r ∈ rs)) :=
  ⟨rNotInD W.K, _, _, fun n => by have := op_notInD (X := F n) (by have := (hF.room n).un; omega); rw [hF.K n] at this; exact this, stb_rs, ha, hb, rd_val fun _ _ x y G H e p q => ⟨_, .bl _, fun Q h => by
    have h1 := dt_dp (K := W.K) (dt_mono e p) (flat_tI r)
    have h2 := dt_dp (K := W.K) (dt_mono e q) (show (rmsD rs).flat = true by rw [Dat.flat]; exact flat_rows rs)
    rw [py_tI] at h1
    rw [py_rowsL] at h2
    have s1 := shaped_sqI true r
    rw [py_tI] at s1
    have s2 := shaped_rowsL rs
    rw [py_rowsL] at s2
    refine ⟨_, _, h1, h2, s1, s2, ?_⟩
    rw [any_rows]
    exact h⟩, hm⟩
end K84
/-! part D18 -/
set_option Elab.async false
set_option linter.all false
set_option maxRecDepth 100000
set_option maxHeartbeats 4000000
namespace K84
open PySem PySem.Spec PyProof.Rows L2 Evl FX M84
variable {W : Wd}
theorem pick {α : Type} {l : List α} (h : l ≠ []) {c : Int} (hc : 0 ≤ c) : ∃ (i : Nat) (x : α), c % (l.length : Int) = (i : Nat) ∧ l[i]? = some x ∧ x ∈ l := by
  have hl := List.length_pos_iff.mpr h
  have h1 := Int.emod_nonneg c (b := (l.length : Int)) (by omega)
  have h2 := Int.emod_lt_of_pos c (b := (l.length : Int)) (by omega)
  have hi : (c % (l.length : Int)).toNat < l.length := by omega
  exact ⟨_, _, (Int.toNat_of_nonneg h1).symm, List.getElem?_eq_getElem hi, List.getElem_mem hi⟩
theorem same_two {n : Nat} {a : Str} {c : Dat} (h : Same n c c) : Same (n + 1) (.sq true [.str a, c]) (.sq true [.str a, c]) := same_sq (fun x hx => by
  simp only [List.mem_cons, List.not_mem_nil, or_false] at hx
  rcases hx with rfl | rfl
  · exact .str _
  · exact h) (Nat.le_of_ble_eq_true rfl)
theorem sc_refr : FnScope ["script", "orders", "n", "d", "whole", "room", "outside", "place", "longer", "beaten", "stranger", "p", "other"] ["script", "orders", "n", "d", "whole"] (defScope (top 53)) := ⟨rfl, rfl, rfl, by decide +kernel, rfl, by decide +kernel, by decide +kernel⟩
def Rrefr : List Dat → Sl → Prop := fun ds s => ∃ (script : List Int) (t : Bool) (os : List (List Int)) (d v : Nat), ds = [sqI false script, ordD t os, nD (v + d), nD d, rmsD (sortR (roomsU os d v))] ∧ Ords os d v ∧ s = .dat (.bl true)
theorem ok_refr (T : Bi W) (Cc : Fn W "_law_cell" 1 2 Rcell) (Cs : Fn W "_law_same" 3 2 (Rsame 2)) (Cr : Fn W "_law_refused" 5 3 Rrefused) (Cl : Fn W "_law_rooms" 5 2 (Rsubs 4)) (D : HasDef W "_law_refusals_right" 53) : Fn W "_law_refusals_right" 6 5 Rrefr := by
  refine fn_mk D sc_refr rfl (fun _ _ _ _ _ _ us hl => match us, hl with | [_, _, _, _, _], _ => rfl) fun f cdv A outer s0 H E hF ds r hR _ => ?_
  obtain ⟨script, t, os, d, v, rfl, ho, rfl⟩ := hR
  have h1 := ho.d1
  have h2 := ho.d4
  have h3 := ho.v1
  have h4 := ho.v8
  have hll : (sortR (roomsU os d v)).length ≤ 4097 := by rw [(sortR_perm _).length_eq]; exact roomsU_len ho
  have hLne : sortR (roomsU os d v) ≠ [] := List.ne_nil_of_mem ((sortR_perm _).mem_iff.mpr (List.mem_append_right _ (List.mem_singleton.mpr rfl)) : irg v d ∈ sortR (roomsU os d v))
  have hLp := List.length_pos_iff.mpr hLne
  obtain ⟨i0, room, e0, g0, m0⟩ := pick hLne (cellF_nn script 9)
  have a0 : atI ((sortR (roomsU os d v)).map tI) ((i0 : Nat) : Int) = some (tI room) := atI_map g0
  have hU := (sortR_perm _).mem_iff.mp m0
  obtain ⟨hlen, hrange, hasc⟩ := roomsU_room ho hU
  have hnd := asc_nodup hasc
  have hrne : room ≠ [] := fun z => by rw [z] at hlen; simp at hlen; omega
  -- the outside
  have hOne : ((List.range (v + d)).filter fun p => !decide (((p : Nat) : Int) ∈ room)) ≠ [] := fun z => by
    have hall : ∀ p ∈ irg 0 (v + d), p ∈ room := fun p hp => Classical.byContradiction fun hn => by
      have hp := mem_irg.mp hp
      have : p.toNat ∈ (List.range (v + d)).filter fun p => !decide (((p : Nat) : Int) ∈ room) := List.mem_filter.mpr ⟨List.mem_range.mpr (by omega), by rw [Int.toNat_of_nonneg hp.1, decide_eq_false hn]; rfl⟩
      rw [z] at this
      cases this
    have := (perm_of_sub (irg_nodup 0 (v + d)) hall (by rw [irg_len]; omega)).length_eq
    rw [irg_len] at this
    omega
  have hOp := List.length_pos_iff.mpr hOne
  have hOl := List.length_filter_le (fun p : Nat => !decide (((p : Nat) : Int) ∈ room)) (List.range (v + d))
  rw [List.length_range] at hOl
  obtain ⟨i1, place, e1, g1, m1⟩ := pick hOne (cellF_nn script 10)
  have a1 : atI (((List.range (v + d)).filter fun p => !decide (((p : Nat) : Int) ∈ room)).map nD) ((i1 : Nat) : Int) = some (nD place) := atI_map g1
  have hpl : ((place : Nat) : Int) ∉ room := by
    have := (List.mem_filter.mp m1).2
    simpa using this
  have hlast : room.getLastD 0 ∈ room := (last_idx hnd hrne (List.head_mem hrne)).2
  have al := atI_last hrne
  have hm : room.map Dat.int ++ [nD place] = (room ++ [((place : Nat) : Int)]).map Dat.int := by rw [List.map_append]; rfl
  have hlg : (sortI (room ++ [((place : Nat) : Int)])).length = d + 1 := by rw [(sortI_perm _).length_eq, List.length_append, hlen]; rfl
  have hhead : atI (room.map Dat.int) 0 = some (.int (room.headD 0)) := head_at hrne
  -- the beaten rooms
  have hsl := subs_len (l := irg 0 (v + d)) (s := d) (by rw [irg_len]; omega) (by rw [irg_len]; omega)
  have hBl := List.length_filter_le (fun r => !decide (r ∈ sortR (roomsU os d v))) (subs (irg 0 (v + d)) d)
  have cell : ∀ (c : Nat) (l : List Dat) (i : Nat), cellF script c % (l.length : Int) = (i : Nat) → Dat.int (cellF script c % (l.length : Int)) = nD i := fun c l i e => congrArg Dat.int e
  have body : ∃ o, XSs (bodyF W ["script", "orders", "n", "d", "whole", "room", "outside", "place", "longer", "beaten", "stranger", "p", "other"] "_law_refusals_right" (defScope (top 53)) f cdv A outer s0 H E) ((defBody (top 53)).drop 9)
      [.dat (sqI false script), .dat (ordD t os), .dat (nD (v + d)), .dat (nD d), .dat (rmsD (sortR (roomsU os d v))), .dat (tI room), .mL (((List.range (v + d)).filter fun p => !decide (((p : Nat) : Int) ∈ room)).map nD), .dat (nD place), .dat (tI (sortI (room ++ [((place : Nat) : Int)]))),
        .mL (((subs (irg 0 (v + d)) d).filter fun r => !decide (r ∈ sortR (roomsU os d v))).map tI), .no, .no, .no] o ∧ OutRes o (.dat (.bl true)) := by
    by_cases hB : ((subs (irg 0 (v + d)) d).filter fun r => !decide (r ∈ sortR (roomsU os d v))) = []
    · exact ⟨_, ss_stop (s_ifT (XB.is (b_cm (cm_eq (x_lenM T.len hF (q_var 9 hF)) x_int)) (decide_eq_true (by rw [hB]; rfl))) (ss_one (s_ret x_bl))), .rt _⟩
    · obtain ⟨i2, str, e2, g2, m2⟩ := pick hB (cellF_nn script 11)
      have hBp := List.length_pos_iff.mpr hB
      have a2 : atI (((subs (irg 0 (v + d)) d).filter fun r => !decide (r ∈ sortR (roomsU os d v))).map tI) ((i2 : Nat) : Int) = some (tI str) := atI_map g2
      obtain ⟨b1, b2⟩ := List.mem_filter.mp m2
      have hsn : str ∉ roomsU os d v := fun z => by
        have z2 := (sortR_perm _).mem_iff.mpr z
        rw [decide_eq_true z2] at b2
        cases b2
      have hsr : isRoom (v + d) d str := ⟨subs_mem b1, fun p hp => by have := mem_irg.mp ((subs_sub b1).subset hp); omega, (irg_asc _ _).sublist (subs_sub b1)⟩
      have hsne : str ≠ [] := fun z => by have := hsr.1; rw [z] at this; simp at this; omega
      have hsl2 := hsr.1
      have ah := head_at hsne
      exact ⟨_, ss_cons (s_ifN (XB.is (b_cm (cm_eq (x_lenM T.len hF (q_var 9 hF)) x_int)) (decide_eq_false (by omega))))
        (ss_cons (s_set 10 hF (x_ix hF (q_var 9 hF) (XD.is (da := nD i2) (x_mod (x_int1 T.int hF (x_call Cc hF (by decide) (xa_cons (xv 0 hF) (xa_cons (XD.is (da := nD 11) x_int rfl) xa_nil)) rfl ⟨script, 11, rfl, by omega, rfl⟩)) (x_lenM T.len hF (q_var 9 hF)) (by omega)) (congrArg Dat.int e2)) a2))
        (ss_cons (s_ifN (XB.is (b_not (b_val (x_call Cs hF (by decide) (xa_cons (x_call Cr hF (by decide) (xa_cons (xv 1 hF) (xa_cons (xv 10 hF) (xa_cons (x_ix hF (q_of (xv 10 hF)) x_int ah) xa_nil))) rfl ⟨t, os, d, v, str, _, rfl, ho, by omega, .inr (.inr (.inl ⟨hsr, hsn, rfl⟩))⟩) (xa_cons (x_tup (xa_cons x_str (xa_cons (xv 10 hF) xa_nil))) xa_nil)) rfl ⟨_, _, rfl, same_two (same_ints (by omega)), rfl⟩))) rfl))
        (ss_one (s_ret (x_call Cs hF (by decide) (xa_cons (x_call Cr hF (by decide) (xa_cons (xv 1 hF) (xa_cons (xv 10 hF) (xa_cons (xv 2 hF) xa_nil))) rfl ⟨t, os, d, v, str, _, rfl, ho, by omega, .inr (.inr (.inl ⟨hsr, hsn, rfl⟩))⟩) (xa_cons (x_tup (xa_cons x_str (xa_cons (xv 10 hF) xa_nil))) xa_nil)) rfl ⟨_, _, rfl, same_two (same_ints (by omega)), rfl⟩))))), .rt _⟩
  obtain ⟨o, hb, hob⟩ := body
  refine ⟨o, ss_cons (s_set 5 hF (x_ix hF (q_of (xv 4 hF)) (XD.is (da := nD i0) (x_mod (x_int1 T.int hF (x_call Cc hF (by decide) (xa_cons (xv 0 hF) (xa_cons (XD.is (da := nD 9) x_int rfl) xa_nil)) rfl ⟨script, 9, rfl, by omega, rfl⟩)) (x_lenM T.len hF (q_of (xv 4 hF))) (by omega)) (congrArg Dat.int e0)) a0))
    (ss_cons (s_setLcf 6 [11] [("p", 11)] (defScope (top 53)) (List.range (v + d)) nD (fun p => !decide (((p : Nat) : Int) ∈ room)) nD hF (i_rngN T.range hF (xv 2 hF) (by omega)) (by rw [List.length_range]; omega) fun hB p hp => ⟨_, g_name 11 hB, t_one (b_cm (cm_notIn hB (xv 11 hB) (q_of (xv 5 hB)))), fun _ => xv 11 hB⟩)
    (ss_cons (s_set 7 hF (x_ix hF (q_var 6 hF) (XD.is (da := nD i1) (x_mod (x_int1 T.int hF (x_call Cc hF (by decide) (xa_cons (xv 0 hF) (xa_cons (XD.is (da := nD 10) x_int rfl) xa_nil)) rfl ⟨script, 10, rfl, by omega, rfl⟩)) (x_lenM T.len hF (q_var 6 hF)) (by omega)) (congrArg Dat.int e1)) a1))
    (ss_cons (s_ifN (XB.is (b_not (b_val (x_call Cs hF (by decide) (xa_cons (x_call Cr hF (by decide) (xa_cons (xv 1 hF) (xa_cons (xv 5 hF) (xa_cons (xv 7 hF) xa_nil))) rfl ⟨t, os, d, v, room, _, rfl, ho, by omega, .inr (.inr (.inr (.inl ⟨hU, hpl, rfl⟩)))⟩) (xa_cons (x_tup (xa_cons x_str (xa_cons x_str xa_nil))) xa_nil)) rfl ⟨_, _, rfl, same_two (.str _), rfl⟩))) rfl))
    (ss_cons (s_ifN (XB.is (b_cm (cm_notN (x_call Cr hF (by decide) (xa_cons (xv 1 hF) (xa_cons (xv 5 hF) (xa_cons (x_ix hF (q_of (xv 5 hF)) (x_neg x_int) al) xa_nil))) rfl ⟨t, os, d, v, room, _, rfl, ho, by omega, .inr (.inr (.inr (.inr ⟨hU, hlast, rfl⟩)))⟩) x_non)) rfl))
    (ss_cons (s_set 8 hF (XD.is (da := tI (sortI (room ++ [((place : Nat) : Int)]))) (x_tupL T.tuple hF (q_mL (o_sorted T.sorted hF (q_of (XD.is (da := tI (room ++ [((place : Nat) : Int)])) (x_catT hF (xv 5 hF) (x_tup (xa_cons (xv 7 hF) xa_nil)) ?_) (by rw [hm]))) (ok_ints (by rw [List.length_append]; show _ + 1 ≤ _; omega))))) (by rw [sort_ints])))
    (ss_cons (s_ifN (XB.is (b_not (b_val (x_call Cs hF (by decide) (xa_cons (x_call Cr hF (by decide) (xa_cons (xv 1 hF) (xa_cons (xv 8 hF) (xa_cons (xv 7 hF) xa_nil))) rfl ⟨t, os, d, v, sortI (room ++ [((place : Nat) : Int)]), _, rfl, ho, by omega, .inl ⟨by omega, rfl⟩⟩) (xa_cons (x_tup (xa_cons x_str (xa_cons (xv 8 hF) xa_nil))) xa_nil)) rfl ⟨_, _, rfl, same_two (same_ints (by omega)), rfl⟩))) rfl))
    (ss_cons (s_ifN (XB.is (b_w (w_and (b_cm (cm_gt (xv 3 hF) x_int)) fun hd => w_and1 (b_not (b_val (x_call Cs hF (by decide) (xa_cons (x_call Cr hF (by decide) (xa_cons (xv 1 hF) (xa_cons (XD.is (da := tI room.reverse) (x_revT hF (q_of (xv 5 hF))) ?_) (xa_cons (x_ix hF (q_of (xv 5 hF)) x_int hhead) xa_nil))) rfl ⟨t, os, d, v, room.reverse, _, rfl, ho, by rw [List.length_reverse]; omega, .inr (.inl ⟨by rw [List.length_reverse]; exact hlen, fun p hp => hrange p (List.mem_reverse.mp hp), (List.reverse_perm _).nodup_iff.mpr hnd, ?_, rfl⟩)⟩)
      (xa_cons (x_tup (xa_cons x_str (xa_cons (XD.is (da := tI room.reverse) (x_revT hF (q_of (xv 5 hF))) ?_) xa_nil))) xa_nil)) rfl ⟨_, _, rfl, same_two (same_ints (by rw [List.length_reverse]; omega)), rfl⟩))))) (by simp)))
    (ss_cons (s_setLcf 9 [12] [("other", 12)] (defScope (top 53)) (subs (irg 0 (v + d)) d) tI (fun r => !decide (r ∈ sortR (roomsU os d v))) tI hF (i_sq (t := false) hF (XE.pub (x_call Cl hF (by decide) (xa_cons (x_tupRg (n := v + d) T.tuple T.range hF (xv 2 hF) (by omega)) (xa_cons (xv 3 hF) xa_nil)) rfl ⟨irg 0 (v + d), d, rfl, h2, by rw [irg_len]; omega, by rw [irg_len]; omega, rfl⟩))) (by omega)
      fun hB r hr => ⟨_, g_name 12 hB, t_one (b_cm (cm_notInR hB (xv 12 hB) (xv 4 hB))), fun _ => xv 12 hB⟩) hb)))))))), hob⟩
  · rw [List.length_map]
    show _ + 1 ≤ _
    omega
  · rw [← List.map_reverse]
  · have hd := of_decide_eq_true hd
    rw [sortI_unique (List.reverse_perm room) (hasc.imp fun h => Int.le_of_lt h)]
    intro z
    match room, hlen, hasc, z with
    | a :: b :: l, hlen, hasc, z =>
      have h5 := hasc
      rw [← z, List.pairwise_reverse] at h5
      have h6 := (List.pairwise_cons.mp hasc).1 b (List.mem_cons_self)
      have h7 := (List.pairwise_cons.mp h5).1 b (List.mem_cons_self)
      omega
    | [_], hlen, _, _ => simp at hlen; omega
    | [], hlen, _, _ => simp at hlen; omega
  · rw [← List.map_reverse]
end K84
/-! part FRepr -/
set_option Elab.async false
set_option linter.all false
set_option maxRecDepth 100000
set_option maxHeartbeats 2000000
/-! repr of data, where the guards of the stack are known (the law's own level). -/
namespace FX
open PySem PySem.Spec PyProof.Rows L2 Evl
def rRepr (K : PySem.W.Frag) : List V → Hp → VK → Prop := fun vs H Q => ∃ (a : Addr) (d : PyData), vs = [.ref a] ∧ Dp K H (.ref a) d ∧ d.showable = true ∧ d.hasDict = false ∧ d.depth ≤ 50 ∧ d.shown.length ≤ sizeLine ∧ Q (.str d.shown) H
theorem call_reprD {X : Cx} (hG : X.A.guards = some []) (hu : X.A.units + 60 < cLine) : CallR X (.builtin "repr") (rRepr X.K) := by
  intro pins s σ H vs us Q I r h
  obtain ⟨a, d, rfl, hd, h1, h2, h3, h4, q⟩ := h
  cases r with
  | cons rv rn =>
    cases rn
    rename_i u
    obtain rfl : u = Value.ref a := rv
    obtain ⟨as, rd⟩ := Dp.reads I d _ _ hd rfl
    exact repr_of_reads' rd h1 (fun z => by rw [h2] at z; cases z) hG (by omega) (fun b o z => z) (fun h' u tk k => ⟨.str d.shown, H, I.kept (t' := tk) k, ⟨u, rfl⟩, q⟩) h4
end FX
/-! part D19 -/
set_option Elab.async false
set_option linter.all false
set_option maxRecDepth 100000
set_option maxHeartbeats 4000000
namespace FX
open PySem PySem.Spec PyProof.Rows L2 Evl
section
variable {ι : Type} {W : Wd} {k : Nat} {N : List Str} {F : ι → Cx} {Γ : List Sl} {a b e : Expr} {d : Dat} {ds : List Dat} {s : Sl} {pos p : Pos}
/-- repr(e), e a sequence, in the law's own frame -/
theorem x_repr {t : Bool} (hm : W.mg "repr" = none) (hF : Fam W k N F) (hG : ∀ i, (F i).A.guards = some []) (h : XD F a Γ (.sq t ds)) (hf : (Dat.sq t ds).flat = true) (h1 : (Dat.sq t ds).py.showable = true) (h2 : (Dat.sq t ds).py.hasDict = false) (h3 : (Dat.sq t ds).py.depth ≤ 50) (h4 : (Dat.sq t ds).py.shown.length ≤ sizeLine)
    (hg : ∀ n, Gl (F n) "repr" := by intro _; rfl) (he : ∀ n, starEach [a] (F n).env = (false, eval a (F n).env) :: starEach [] (F n).env := by intro _; rfl) (hpl : ∀ n, (backTo pos (starEach [] (F n).env)).any (·.1) = false := by intro _; rfl) :
    XD F (.Call (.Name "repr" p) [a] [] pos) Γ (.str (Dat.sq t ds).py.shown) := fun H0 G H σ E Q q =>
  ⟨tCB (rRepr W.K) (tCons (wE F a) tNil), fun n => by
      have hx := call_reprD (X := F n) (hG n) (by have := (hF.room n).un; omega)
      rw [hF.K n] at hx
      exact pe_callB hx (hg n) (by rw [hF.mg n]; exact hm) (by decide +kernel) (pa_cons (pe_w (F := F) (e := a) n) pa_nil (he n)) (by decide) (by decide) (he n) (hpl n),
    h H0 G H σ E _ fun v G1 H1 n1 p1 => by
      have hd := dt_dp (K := W.K) (dt_mono n1.gh p1) hf
      cases p1 with
      | sq h5 h6 => exact ⟨_, _, rfl, hd, h1, h2, h3, h4, q _ G1 H1 n1 (.str _)⟩⟩
/-- f(x, e), x an own hidden list that is but lent, the answer a Bool -/
theorem x_lend {x y : Str} {j i : Nat} {R : List Dat → Sl → Prop} {p2 : Pos} {bb : Bool} (hf : Fn W x j 2 R) (hF : Fam W k N F) (hj : j ≤ k) (hi : Γ[i]? = some (.mL ds)) (hN : N[i]? = some y) (hb : XD F e Γ d) (hR : R [.sq false ds, d] (.dat (.bl bb)))
    (hg : ∀ n, Gl (F n) x := by intro _; rfl) (hv : ∀ n, Vis (F n).env.scope y := by first | exact fun _ => Or.inl rfl | exact fun _ => Or.inr (Or.inl rfl) | exact fun _ => Or.inr (Or.inr rfl)) (hdy : (y == ("__debug__" : Str)) = false := by decide) (hcy : (y == ("__classdict__" : Str)) = false := by decide) (hdb : (x == ("__debug__" : Str)) = false := by decide)
    (he : ∀ n, starEach [.Name y p2, e] (F n).env = (false, eval (.Name y p2) (F n).env) :: starEach [e] (F n).env := by intro _; rfl) (he2 : ∀ n, starEach [e] (F n).env = (false, eval e (F n).env) :: starEach [] (F n).env := by intro _; rfl) (hpl : ∀ n, (backTo pos (starEach [e] (F n).env)).any (·.1) = false := by intro _; rfl) :
    XD F (.Call (.Name x p) [.Name y p2, e] [] pos) Γ (.bl bb) := fun H0 G H σ E Q q => by
  obtain ⟨f, fd, ps, h1, h2, h3, h4, h5⟩ := hf
  refine ⟨tCall (SpD 2 R) [] E0 (tCons (tVar i) (tCons (wE F e) tNil)), fun i => ?_, ?_⟩
  · refine pe_call (CX := CX0) (k := j) (fd := fd) (ps := ps) (ds := []) (f := f) ?_ ((hF.room i).mono hj) (hg i) (by rw [hF.mg i]; exact h1) (by rw [hF.K i]; exact h2) (by rw [hF.K i]; exact h3) .nil pass0 (pa_cons (pe_var (by rw [hF.names i]; exact hN) (hv i) hdy hcy) (pa_cons (pe_w (F := F) (e := e) i) pa_nil (he2 i)) (he i)) hdb (he i) (hpl i)
    rw [hF.prog i, hF.w i, hF.K i, hF.mg i, hF.base i]
    exact h5
  · obtain ⟨v, hv1, hv2⟩ := E.get hi (by intro z; cases z)
    obtain ⟨ad, xs, ev, g0, gn, hh, dd⟩ := hv2
    subst ev
    refine ⟨_, hv1, hb H0 G H σ E _ fun w G1 H1 n1 p1 => ?_⟩
    have hh1 := n1.hh _ _ hh
    have gn1 : G1 ad = none := n1.hid hh (fun _ z => by cases z) gn
    have ex2 : Ex (upd G1 ad (.lst xs)) H1 := fun c u hu => by
      by_cases hc : c = ad
      · rw [hc, upd_same] at hu
        rw [hc, ← hu]
        exact hh1
      · rw [upd_ne hc] at hu
        exact n1.gh c u hu
    show SpD 2 R ([.ref ad, w] ++ []) H1 Q E0
    refine ⟨upd G1 ad (.lst xs), [.sq false ds, d], .dat (.bl bb), ex2, ?_, rfl, hR, fun v G' H' n2 p2 => ?_⟩
    · exact .cons (.sq (t := false) (.of upd_same) (dta_mono (n1.gg.trans (Ex.new gn1)) dd)) (.cons (dt_mono (Ex.new gn1) p1) .nil)
    · cases p2
      exact q _ G1 H' ⟨n1.hh.trans n2.hh, n1.gg, n1.gh.trans n2.hh, n1.2.2.2⟩ (.bl bb)
end
end FX
/-! part D20 -/
set_option Elab.async false
set_option linter.all false
set_option maxRecDepth 100000
set_option maxHeartbeats 4000000
namespace K84
open PySem PySem.Spec PyProof.Rows L2 Evl FX M84
/-! ### the written form of the orders -/
abbrev pyR (t : Bool) (xs : List PyData) : PyData := if t then .tuple xs else .list xs
theorem pyR_showable (t : Bool) (xs : List PyData) : PyData.showable (pyR t xs) = PyData.showableAll xs := by
  cases t with
  | true =>
    show PyData.showable (.tuple xs) = _
    rw [PyData.showable]
  | false =>
    show PyData.showable (.list xs) = _
    rw [PyData.showable]
theorem pyR_hasDict (t : Bool) (xs : List PyData) : PyData.hasDict (pyR t xs) = PyData.hasDictAll xs := by
  cases t with
  | true =>
    show PyData.hasDict (.tuple xs) = _
    rw [PyData.hasDict]
  | false =>
    show PyData.hasDict (.list xs) = _
    rw [PyData.hasDict]
theorem pyR_leavesShort (t : Bool) (xs : List PyData) : PyData.leavesShort 20 (pyR t xs) = PyData.leavesShortAll 20 xs := by
  cases t with
  | true =>
    show PyData.leavesShort 20 (.tuple xs) = _
    rw [PyData.leavesShort]
  | false =>
    show PyData.leavesShort 20 (.list xs) = _
    rw [PyData.leavesShort]
theorem pyR_bulk (t : Bool) (xs : List PyData) : PyData.bulk (pyR t xs) = PyData.bulkAll xs := by
  cases t with
  | true =>
    show PyData.bulk (.tuple xs) = _
    rw [PyData.bulk]
  | false =>
    show PyData.bulk (.list xs) = _
    rw [PyData.bulk]
theorem pyR_depth (t : Bool) (xs : List PyData) : PyData.depth (pyR t xs) = PyData.depthAll xs + 1 := by
  cases t with
  | true =>
    show PyData.depth (.tuple xs) = _
    rw [PyData.depth]
  | false =>
    show PyData.depth (.list xs) = _
    rw [PyData.depth]
theorem small_shown {i : Int} (h0 : 0 ≤ i) (h1 : i < 8) : (PyData.int i).showable = true ∧ (PyData.int i).shown.length ≤ 20 := by
  have : i = 0 ∨ i = 1 ∨ i = 2 ∨ i = 3 ∨ i = 4 ∨ i = 5 ∨ i = 6 ∨ i = 7 := by omega
  rcases this with rfl | rfl | rfl | rfl | rfl | rfl | rfl | rfl <;> exact ⟨by decide +kernel, by decide +kernel⟩
theorem row_facts : ∀ {r : List Int}, (∀ i ∈ r, 0 ≤ i ∧ i < 8) → PyData.showableAll (r.map .int) = true ∧ PyData.hasDictAll (r.map .int) = false ∧ PyData.leavesShortAll 20 (r.map .int) = true ∧ PyData.bulkAll (r.map .int) = r.length
  | [], _ => ⟨rfl, rfl, rfl, rfl⟩
  | i :: r, h => by
    obtain ⟨a, b, c, d⟩ := row_facts fun j hj => h j (List.mem_cons_of_mem _ hj)
    obtain ⟨h0, h1⟩ := h i List.mem_cons_self
    obtain ⟨s1, s2⟩ := small_shown h0 h1
    rw [List.map_cons, PyData.showableAll, PyData.hasDictAll, PyData.leavesShortAll, PyData.bulkAll, a, b, c, d, s1, PyData.hasDict, PyData.leavesShort, PyData.bulk, decide_eq_true s2, List.length_cons]
    exact ⟨rfl, rfl, rfl, by omega⟩
theorem rows_facts (t : Bool) : ∀ {os : List (List Int)}, (∀ r ∈ os, r.length ≤ 8 ∧ ∀ i ∈ r, 0 ≤ i ∧ i < 8) →
    PyData.showableAll (os.map fun r => pyR t (r.map .int)) = true ∧ PyData.hasDictAll (os.map fun r => pyR t (r.map .int)) = false ∧ PyData.leavesShortAll 20 (os.map fun r => pyR t (r.map .int)) = true ∧ PyData.bulkAll (os.map fun r => pyR t (r.map .int)) ≤ 9 * os.length ∧ PyData.depthAll (os.map fun r => pyR t (r.map .int)) ≤ 1
  | [], _ => ⟨rfl, rfl, rfl, by rw [List.map_nil, PyData.bulkAll]; omega, by rw [List.map_nil, PyData.depthAll]; omega⟩
  | r :: os, h => by
    obtain ⟨a, b, c, d, e⟩ := rows_facts t fun j hj => h j (List.mem_cons_of_mem _ hj)
    obtain ⟨h0, h1⟩ := h r List.mem_cons_self
    obtain ⟨a2, b2, c2, d2⟩ := row_facts h1
    have k1 : (pyR t (r.map .int)).showable = true := by rw [pyR_showable, a2]
    have k2 : (pyR t (r.map .int)).hasDict = false := by rw [pyR_hasDict, b2]
    have k3 : (pyR t (r.map .int)).leavesShort 20 = true := by rw [pyR_leavesShort, c2]
    have k4 : (pyR t (r.map .int)).bulk ≤ 8 := by rw [pyR_bulk, d2]; exact h0
    have k5 : (pyR t (r.map .int)).depth ≤ 1 := by rw [pyR_depth, PySem.W.depth_ints]; exact Nat.le_refl _
    rw [List.map_cons, PyData.showableAll, PyData.hasDictAll, PyData.leavesShortAll, PyData.bulkAll, PyData.depthAll, a, b, c, k1, k2, k3, List.length_cons]
    exact ⟨rfl, rfl, rfl, by omega, by omega⟩
theorem py_ord (t : Bool) (os : List (List Int)) : (ordD t os).py = pyR t (os.map fun r => pyR t (r.map .int)) := by
  cases t with
  | true =>
    rw [Dat.py, pyAll_map, List.map_map]
    exact congrArg PyData.tuple (List.map_congr_left fun r _ => py_tI r)
  | false =>
    rw [Dat.py, pyAll_map, List.map_map]
    exact congrArg PyData.list (List.map_congr_left fun r _ => py_lI r)
theorem ord_facts {os : List (List Int)} {d v : Nat} (t : Bool) (ho : Ords os d v) : (ordD t os).flat = true ∧ (ordD t os).py.showable = true ∧ (ordD t os).py.hasDict = false ∧ (ordD t os).py.depth ≤ 50 ∧ (ordD t os).py.shown.length ≤ sizeLine := by
  have hr : ∀ r ∈ os, r.length ≤ 8 ∧ ∀ i ∈ r, 0 ≤ i ∧ i < 8 := fun r h => ⟨by rw [ho.olen h]; exact ho.v8, fun i hi => by
    have := mem_irg.mp ((ho.ord r h).mem_iff.mp hi)
    have := ho.v8
    omega⟩
  obtain ⟨a, b, c, d2, e⟩ := rows_facts t hr
  have hl := ho.len
  have h4 := ho.d4
  have k3 : (pyR t (os.map fun r => pyR t (r.map .int))).leavesShort 20 = true := by rw [pyR_leavesShort, c]
  have k4 : (pyR t (os.map fun r => pyR t (r.map .int))).bulk ≤ 36 := by rw [pyR_bulk]; exact Nat.le_trans d2 (by omega)
  refine ⟨?_, ?_, ?_, ?_, ?_⟩
  · rw [Dat.flat, flatAll_all, List.all_eq_true]
    intro x hx
    obtain ⟨r, _, rfl⟩ := List.mem_map.mp hx
    exact flat_sqI t r
  · rw [py_ord, pyR_showable, a]
  · rw [py_ord, pyR_hasDict, b]
  · rw [py_ord, pyR_depth]
    omega
  · rw [py_ord]
    refine Nat.le_trans (PyData.shown_le_bulk 20 (by decide) _ k3) ?_
    rw [sizeLine_eq]
    have : (20 + 2) * (pyR t (os.map fun r => pyR t (r.map .int))).bulk ≤ 22 * 36 := Nat.mul_le_mul_left _ k4
    omega
end K84
/-! part D21 -/
set_option Elab.async false
set_option linter.all false
set_option maxRecDepth 100000
set_option maxHeartbeats 8000000
namespace K84
open PySem PySem.Spec PyProof.Rows L2 Evl FX M84
variable {W : Wd}
abbrev lawN : List Str := ["script", "d", "v", "n", "orders", "rows", "own", "rooms", "whole", "passed", "kept", "full", "told", "images", "renamed", "named_rows", "named_rooms", "named_whole", "row", "p", "room"]
theorem sc_law : FnScope lawN ["script"] (defScope (top 54)) := ⟨rfl, rfl, rfl, by decide +kernel, rfl, by decide +kernel, by decide +kernel⟩
/-- the block of an assigned comprehension -/
def asgScope : Stmt → Scope
  | .Assign _ (.ListComp _ _ sc _) _ => sc
  | _ => { kind := .function, names := [], isGenerator := false, isCoroutine := false }
abbrev lawAt (i : Nat) : Stmt := (defBody (top 54)).getD i (.Pass ⟨0, 0, 0, 0⟩)
abbrev lawSc (i : Nat) : Scope := relS (asgScope (lawAt i)) (defScope (top 54))
structure LawC (W : Wd) (CB : Addr) : Prop where
  cell : Fn W "_law_cell" 1 2 Rcell
  orders : Fn W "_law_orders" 2 3 Rorders
  lfull : Fn W "_law_full" 1 2 Rlfull
  lub : Fn W "_law_unbeaten" 6 1 Rlub
  full : Fn W "full_orders" 2 1 Rfull
  same2 : Fn W "_law_same" 3 2 (Rsame 2)
  bookr : Fn W "_law_book_right" 8 5 Rbookr
  terms : Fn W "_law_terms" 2 3 Rterms
  facesr : Fn W "_law_faces_right" 5 2 Rfacesr
  refr : Fn W "_law_refusals_right" 6 5 Rrefr
  order : Fn W "_law_order" 1 2 Rorder
  ubook : Fn W "unbeaten_book" 7 1 (Rubook CB)
theorem full_in {os : List (List Int)} {d v : Nat} (ho : Ords os d v) {r : List Int} (h : r ∈ fulls os d v) {p : Int} (hp : Pl d v p) : p ∈ r := (full_perm ho h).mem_iff.mpr (pl_irg.mp hp)
theorem full_l {os : List (List Int)} {d v : Nat} (ho : Ords os d v) {r : List Int} (h : r ∈ fulls os d v) : r.length = v + d := by rw [(full_perm ho h).length_eq, irg_len]
theorem terms_pre {os : List (List Int)} {d v : Nat} (ho : Ords os d v) {M : List (List Int)} (hM : M.Perm (ubR os d v)) : (fulls os d v).length ≤ 100 ∧ M.length ≤ 50000 ∧ (∀ room ∈ M, room.length ≤ 100 ∧ room ≠ [] ∧ (∀ r ∈ fulls os d v, r.length ≤ 1000 ∧ ∀ p ∈ room, p ∈ r)) := by
  have h1 := ho.d1
  have h2 := ho.d4
  have h4 := ho.v8
  refine ⟨by rw [fulls_len, ho.len]; omega, by rw [hM.length_eq]; exact Nat.le_trans (ub_len ho) (by omega), fun room hr => ?_⟩
  obtain ⟨a, b, c, _⟩ := (mem_ub ho).mp (hM.mem_iff.mp hr)
  refine ⟨by omega, fun z => by rw [z] at c; simp at c; omega, fun r hr => ⟨by rw [full_l ho hr]; omega, fun p hp => full_in ho hr (b p hp)⟩⟩
theorem same_row {n : Nat} {r : List Int} (h : r.length ≤ 100000) : Same (n + 1) (.row r) (tI r) := .row (by rw [List.length_map]) (by rw [List.length_map]; exact h) fun i a d h1 h2 => by
  rw [h1] at h2
  cases h2
  obtain ⟨x, _, rfl⟩ := List.mem_map.mp (List.mem_of_getElem? h1)
  exact .int x
theorem same_full {n : Nat} {rs : List (List Int)} (h : rs.length ≤ 100000) (h2 : ∀ r ∈ rs, r.length ≤ 100000) : Same (n + 2) (rowsD rs) (rmsD rs) := .sq (by rw [List.length_map, List.length_map]) (by rw [List.length_map]; exact h) fun i a d e1 e2 => by
  rw [List.getElem?_map] at e1 e2
  cases e : rs[i]? with
  | none => rw [e] at e1; cases e1
  | some r =>
    rw [e] at e1 e2
    cases e1
    cases e2
    exact same_row (h2 r (List.mem_of_getElem? e))
/-- the renaming, as the law reads it off -/
theorem img_at {o : List Int} {d v : Nat} (ho : isOrd v o) {p : Int} (hp : Pl d v p) : atI ((o ++ irg v d).map Dat.int) p = some (.int (phi o d v p)) := by
  have h := atI_map (f := Dat.int) (phi_at ho hp)
  rw [Int.toNat_of_nonneg hp.1] at h
  exact h
theorem li_map (g : Int → Int) (o : List Int) : Dat.sq false (o.map fun p => .int (g p)) = lI (o.map g) := by
  show _ = Dat.sq false ((o.map g).map Dat.int)
  rw [List.map_map]
  rfl
theorem li_maps (g : Int → Int) (os : List (List Int)) : Dat.sq false (os.map fun o => lI (o.map g)) = ordD false (os.map (·.map g)) := by
  show _ = Dat.sq false ((os.map _).map (sqI false))
  rw [List.map_map]
  rfl
abbrev lawF (W : Wd) (f : Addr) (cdv : Value) (s0 : Shared) (H : Hp) (E : XK) : Unit → Cx := bodyF W lawN "law" (defScope (top 54)) f cdv callerA [] s0 H E
section
variable {CB : Addr} {f : Addr} {cdv : Value} {s0 : Shared} {H : Hp} {E : XK}
/-- from the renaming on -/
theorem law_tail (T : Bi W) (B : BkF W CB) (L : LawC W CB) (hF : Fam W 8 lawN (lawF W f cdv s0 H E)) {script : List Int} {t : Bool} {os : List (List Int)} {d v : Nat} (ho : Ords os d v) {x3 x12 : Sl} :
    ∃ o, XSs (lawF W f cdv s0 H E) ((defBody (top 54)).drop 20) [.dat (sqI false script), .dat (nD d), .dat (nD v), .dat (nD (v + d)), .dat (.sq false (os.map lI)), .dat (.sq false ((fulls os d v).map lI)), .dat (tI (irg v d)), .dat (rmsD (ubR os d v)), .dat (rmsD (sortR (roomsU os d v))),
      .dat (ordD t os), .dat (.str (ordD t os).py.shown), x3, x12, .no, .no, .no, .no, .no, .no, .no, .no] o ∧ OutRes o (.dat (.bl true)) := by
  have h1 := ho.d1
  have h2 := ho.d4
  have h3 := ho.v1
  have h4 := ho.v8
  have hc := cellF_nn script 8
  have hr : isOrd v (orderF (cellF script 8) v) := orderF_ord hc
  have hf := phi_ren (d := d) hr
  have ho2 := ren_ords ho hf
  have hM := ren_ub ho hf
  obtain ⟨r1, r2, r3, r4, r5⟩ := ord_facts t ho
  have hN : sortR ((ubR os d v).map (img (phi (orderF (cellF script 8) v) d v)) ++ [irg v d]) = sortR (roomsU (os.map (·.map (phi (orderF (cellF script 8) v) d v))) d v) := sortR_congr (hM.append_right _)
  have hub := ub_len ho
  have hU := roomsU_len ho
  have hsl : (sortR (roomsU os d v)).length ≤ 4097 := by rw [(sortR_perm _).length_eq]; exact hU
  obtain ⟨t1, t2, t3⟩ := terms_pre ho2 hM
  have t0 := terms_ok ho2 hM
  refine ⟨_, ss_cons (XS.pubA 13 (s_set 13 hF (o_catL hF (q_mL (x_call L.order hF (by decide) (xa_cons (x_call L.cell hF (by decide) (xa_cons (xv 0 hF) (xa_cons (XD.is (da := nD 8) x_int rfl) xa_nil)) rfl ⟨script, 8, rfl, by omega, rfl⟩) (xa_cons (xv 2 hF) xa_nil)) rfl ⟨cellF script 8, v, rfl, hc, by omega, rfl⟩)) (q_mL (o_list T.list hF (q_of (xv 6 hF)))) ?_)))
    (ss_cons (XS.pubA 14 (s_setLcm 14 [18] [("row", 18)] (defScope (top 54)) os lI (fun o => lI (o.map (phi (orderF (cellF script 8) v) d v))) hF (i_sq hF (xv 4 hF)) (by rw [ho.len]; omega) fun hB o hm => ⟨_, g_name 18 hB, XD.is (XE.pub (o_lcm [19] [("p", 19)] (lawSc 21) o .int (fun p => .int (phi (orderF (cellF script 8) v) d v p)) hB (i_sq hB (xv 18 hB)) ?_ fun hC p hp => ⟨_, g_name 19 hC, x_ix hC (q_of (xv 13 hC)) (xv 19 hC) ?_⟩)) ?_⟩))
    (ss_cons (XS.pubA 15 (s_setLcm 15 [18] [("row", 18)] (defScope (top 54)) (fulls os d v) lI (fun o => lI (o.map (phi (orderF (cellF script 8) v) d v))) hF (i_sq hF (xv 5 hF)) ?_ fun hB o hm => ⟨_, g_name 18 hB, XD.is (XE.pub (o_lcm [19] [("p", 19)] (lawSc 22) o .int (fun p => .int (phi (orderF (cellF script 8) v) d v p)) hB (i_sq hB (xv 18 hB)) ?_ fun hC p hp => ⟨_, g_name 19 hC, x_ix hC (q_of (xv 13 hC)) (xv 19 hC) ?_⟩)) ?_⟩))
    (ss_cons (XS.pubA 16 (s_setLcm 16 [20] [("room", 20)] (defScope (top 54)) (ubR os d v) tI (fun o => tI (img (phi (orderF (cellF script 8) v) d v) o)) hF (i_sq hF (xv 7 hF)) (by omega) fun hB o hm => ⟨_, g_name 20 hB, XD.is (x_tupL T.tuple hB (q_mL (o_sorted T.sorted hB (XQ.is (ds' := (o.map (phi (orderF (cellF script 8) v) d v)).map Dat.int) (q_mL (o_lcm [19] [("p", 19)] (lawSc 23) o .int (fun p => .int (phi (orderF (cellF script 8) v) d v p)) hB (i_sq hB (xv 20 hB)) ?_ fun hC p hp => ⟨_, g_name 19 hC, x_ix hC (q_of (xv 13 hC)) (xv 19 hC) ?_⟩)) ?_) (ok_ints ?_)))) ?_⟩))
    (ss_cons (XS.pubA 17 (s_set 17 hF (XE.is (t := .mL ((sortR (roomsU (os.map (·.map (phi (orderF (cellF script 8) v) d v))) d v)).map tI)) (o_sorted T.sorted hF (XQ.is (ds' := ((ubR os d v).map (img (phi (orderF (cellF script 8) v) d v)) ++ [irg v d]).map tI) (q_mL (o_catL hF (q_of (xv 16 hF)) (q_mL (o_lst (xa_cons (xv 6 hF) xa_nil))) ?_)) ?_) (ok_rows ?_ (.inl ?_))) ?_)))
    (ss_cons (s_ifN (XB.is (b_not (b_val (x_call L.bookr hF (by decide) (xa_cons (xv 14 hF) (xa_cons (xv 3 hF) (xa_cons (xv 1 hF) (xa_cons (xv 17 hF) (xa_cons (XE.pub (x_call L.terms hF (by decide) (xa_cons (xv 15 hF) (xa_cons (xv 16 hF) (xa_cons (xv 6 hF) xa_nil))) rfl ⟨fulls (os.map (·.map (phi (orderF (cellF script 8) v) d v))) d v, (ubR os d v).map (img (phi (orderF (cellF script 8) v) d v)), irg v d, ?_, t1, t2, t3, rfl⟩)) xa_nil))))) rfl ⟨false, os.map (·.map (phi (orderF (cellF script 8) v) d v)), d, v, ?_, ho2, rfl⟩))) rfl))
    (ss_one (s_ret (XD.is (x_and (x_cm (cm_eqS (x_repr T.repr hF (fun _ => rfl) (xv 9 hF) r1 r2 r3 r4 r5) (xv 10 hF))) fun _ => x_one (x_call L.same2 hF (by decide) (xa_cons (x_fld hF (x_call L.ubook hF (by decide) (xa_cons (xv 9 hF) xa_nil) rfl ⟨t, os, d, v, rfl, ho, rfl⟩) B.cl B.nr rfl) (xa_cons (x_tupL T.tuple hF (q_of (xv 8 hF))) xa_nil)) rfl ⟨_, _, rfl, same_rooms (u := true) (by omega) fun r hr => by rw [(roomsU_room ho ((sortR_perm _).mem_iff.mp hr)).1]; omega, rfl⟩)) ?_)))))))), .rt _⟩
  · rw [List.length_map, List.length_map, irg_len, hr.length_eq, irg_len]
    omega
  · rw [ho.olen hm]
    omega
  · rw [← List.map_append]
    have := mem_irg.mp ((ho.ord o hm).mem_iff.mp hp)
    exact img_at hr ⟨by omega, by omega⟩
  · exact li_map _ _
  · rw [fulls_len, ho.len]
    omega
  · rw [full_l ho hm]
    omega
  · rw [← List.map_append]
    exact img_at hr (pl_irg.mpr ((full_perm ho hm).mem_iff.mp hp))
  · exact li_map _ _
  · have := ((mem_ub ho).mp hm).2.2.1
    omega
  · rw [← List.map_append]
    exact img_at hr (((mem_ub ho).mp hm).2.1 p hp)
  · rw [List.map_map]
    rfl
  · rw [List.length_map]
    have := ((mem_ub ho).mp hm).2.2.1
    omega
  · rw [sort_ints]
    rfl
  · rw [List.length_map]
    show _ + 1 ≤ _
    omega
  · rw [List.map_append, List.map_map]
    rfl
  · rw [List.length_append, List.length_map]
    show _ + 1 ≤ _
    omega
  · intro r hr2 z
    have hm : r ∈ roomsU (os.map (·.map (phi (orderF (cellF script 8) v) d v))) d v := (hM.append_right _).mem_iff.mp hr2
    have := (roomsU_ok ho2 hm).2.2
    rw [z] at this
    simp at this
    omega
  · rw [sort_rows, hN]
  · rw [ren_full ho hf, List.map_map, List.map_map]
    rfl
  · rw [t0, li_maps]
  · rw [decide_eq_true rfl]
    rfl
/-- the law's text up to there -/
theorem law_head (T : Bi W) (B : BkF W CB) (L : LawC W CB) (hF : Fam W 8 lawN (lawF W f cdv s0 H E)) (script : List Int) : ∃ o, XSs (lawF W f cdv s0 H E) (defBody (top 54)) (gam lawN [sqI false script]) o ∧ OutRes o (.dat (.bl true)) := by
  have c0 := cellF_nn script 0
  have c1 := cellF_nn script 1
  have c13 := cellF_nn script 13
  obtain ⟨d, hd, hd1, hd4⟩ : ∃ d : Nat, 1 + cellF script 0 % 4 = (d : Nat) ∧ 1 ≤ d ∧ d ≤ 4 := ⟨(1 + cellF script 0 % 4).toNat, by omega, by omega, by omega⟩
  have hq : ((d : Nat) : Int) / 4 = 0 ∨ ((d : Nat) : Int) / 4 = 1 := by omega
  have hm0 : 0 < 5 - 2 * (((d : Nat) : Int) / 4) := by omega
  obtain ⟨u, hu, hu1, hu5⟩ : ∃ u : Nat, 1 + cellF script 1 % (5 - 2 * (((d : Nat) : Int) / 4)) = (u : Nat) ∧ 1 ≤ u ∧ u ≤ 5 := by
    have g1 := Int.emod_nonneg (cellF script 1) (b := 5 - 2 * (((d : Nat) : Int) / 4)) (by omega)
    have g2 := Int.emod_lt_of_pos (cellF script 1) hm0
    exact ⟨(1 + cellF script 1 % (5 - 2 * (((d : Nat) : Int) / 4))).toNat, by omega, by omega, by omega⟩
  obtain ⟨v, hv1, hv8, hv⟩ : ∃ v : Nat, 1 ≤ v ∧ v ≤ 8 ∧ XS (lawF W f cdv s0 H E) (lawAt 2) [.dat (sqI false script), .dat (nD d), .dat (nD u), .no, .no, .no, .no, .no, .no, .no, .no, .no, .no, .no, .no, .no, .no, .no, .no, .no, .no]
      (.nx [.dat (sqI false script), .dat (nD d), .dat (nD v), .no, .no, .no, .no, .no, .no, .no, .no, .no, .no, .no, .no, .no, .no, .no, .no, .no, .no]) := by
    by_cases c : cellF script 12 % 48 = 1
    · obtain ⟨v, e, k1, k2⟩ : ∃ v : Nat, 5 + cellF script 13 % 4 = (v : Nat) ∧ 1 ≤ v ∧ v ≤ 8 := ⟨(5 + cellF script 13 % 4).toNat, by omega, by omega, by omega⟩
      exact ⟨v, k1, k2, s_ifT (XB.is (b_cm (cm_eq (x_mod (x_int1 T.int hF (x_call L.cell hF (by decide) (xa_cons (xv 0 hF) (xa_cons (XD.is (da := nD 12) x_int rfl) xa_nil)) rfl ⟨script, 12, rfl, by omega, rfl⟩)) x_int (by decide)) x_int)) (decide_eq_true c))
        (ss_one (s_set 2 hF (XD.is (da := nD v) (x_add x_int (x_mod (x_int1 T.int hF (x_call L.cell hF (by decide) (xa_cons (xv 0 hF) (xa_cons (XD.is (da := nD 13) x_int rfl) xa_nil)) rfl ⟨script, 13, rfl, by omega, rfl⟩)) x_int (by decide))) (congrArg Dat.int e))))⟩
    · exact ⟨u, hu1, by omega, s_ifN (XB.is (b_cm (cm_eq (x_mod (x_int1 T.int hF (x_call L.cell hF (by decide) (xa_cons (xv 0 hF) (xa_cons (XD.is (da := nD 12) x_int rfl) xa_nil)) rfl ⟨script, 12, rfl, by omega, rfl⟩)) x_int (by decide)) x_int)) (decide_eq_false c))⟩
  have hoo := oTo_ok script d v (d - 1)
  have ho : Ords (ordersF script d v) d v := ⟨hoo.1, hd1, hd4, hv1, hv8, hoo.2 (by omega)⟩
  have hol := ho.len
  generalize hos : ordersF script d v = os at ho hol
  obtain ⟨t, ht⟩ : ∃ t : Bool, XS (lawF W f cdv s0 H E) (lawAt 10) [.dat (sqI false script), .dat (nD d), .dat (nD v), .dat (nD (v + d)), .dat (.sq false (os.map lI)), .dat (.sq false ((fulls os d v).map lI)), .dat (tI (irg v d)), .dat (rmsD (ubR os d v)), .dat (rmsD (sortR (roomsU os d v))),
      .dat (.sq false (os.map lI)), .no, .no, .no, .no, .no, .no, .no, .no, .no, .no, .no]
      (.nx [.dat (sqI false script), .dat (nD d), .dat (nD v), .dat (nD (v + d)), .dat (.sq false (os.map lI)), .dat (.sq false ((fulls os d v).map lI)), .dat (tI (irg v d)), .dat (rmsD (ubR os d v)), .dat (rmsD (sortR (roomsU os d v))),
      .dat (ordD t os), .no, .no, .no, .no, .no, .no, .no, .no, .no, .no, .no]) := by
    by_cases c : cellF script 7 % 2 = 1
    · exact ⟨true, s_ifT (XB.is (b_cm (cm_eq (x_mod (x_int1 T.int hF (x_call L.cell hF (by decide) (xa_cons (xv 0 hF) (xa_cons (XD.is (da := nD 7) x_int rfl) xa_nil)) rfl ⟨script, 7, rfl, by omega, rfl⟩)) x_int (by decide)) x_int)) (decide_eq_true c))
        (ss_one (s_set 9 hF (x_tupL T.tuple hF (q_mL (o_lcm [18] [("row", 18)] (defScope (top 54)) os lI tI hF (i_sq hF (xv 4 hF)) (by omega) fun hB o hm => ⟨_, g_name 18 hB, x_tupL T.tuple hB (q_of (xv 18 hB))⟩)))))⟩
    · exact ⟨false, s_ifN (XB.is (b_cm (cm_eq (x_mod (x_int1 T.int hF (x_call L.cell hF (by decide) (xa_cons (xv 0 hF) (xa_cons (XD.is (da := nD 7) x_int rfl) xa_nil)) rfl ⟨script, 7, rfl, by omega, rfl⟩)) x_int (by decide)) x_int)) (decide_eq_false c))⟩
  obtain ⟨r1, r2, r3, r4, r5⟩ := ord_facts t ho
  have hub := ub_len ho
  have hU := roomsU_len ho
  obtain ⟨t1, t2, t3⟩ := terms_pre ho (List.Perm.refl _)
  have t0 := terms_ok ho (List.Perm.refl _)
  have hfl := fulls_len os d v
  have hsf : Same 2 (rowsD (fulls os d v)) (rmsD (fulls os d v)) := same_full (by omega) fun r hr => by rw [full_l ho hr]; omega
  obtain ⟨o, hb, hob⟩ := law_tail (f := f) (cdv := cdv) (s0 := s0) (H := H) (E := E) (script := script) (t := t) (x3 := .dat (rmsD (fulls os d v))) (x12 := .no) T B L hF ho
  refine ⟨o, ss_cons (s_set 1 hF (XD.is (da := nD d) (x_add x_int (x_mod (x_int1 T.int hF (x_call L.cell hF (by decide) (xa_cons (xv 0 hF) (xa_cons (XD.is (da := nD 0) x_int rfl) xa_nil)) rfl ⟨script, 0, rfl, by omega, rfl⟩)) x_int (by decide))) (congrArg Dat.int hd)))
    (ss_cons (s_set 2 hF (XD.is (da := nD u) (x_add x_int (x_mod (x_int1 T.int hF (x_call L.cell hF (by decide) (xa_cons (xv 0 hF) (xa_cons (XD.is (da := nD 1) x_int rfl) xa_nil)) rfl ⟨script, 1, rfl, by omega, rfl⟩)) (x_sub x_int (x_mul x_int (x_fdiv (xv 1 hF) x_int (by decide) (by decide)) ?_)) hm0)) (congrArg Dat.int hu)))
    (ss_cons hv
    (ss_cons (s_set 3 hF (XD.is (da := nD (v + d)) (x_add (xv 1 hF) (xv 2 hF)) (congrArg Dat.int (by omega))))
    (ss_cons (XS.pubA 4 (s_set 4 hF (XE.is (t := .mL (os.map lI)) (x_call L.orders hF (by decide) (xa_cons (xv 0 hF) (xa_cons (xv 1 hF) (xa_cons (xv 2 hF) xa_nil))) rfl ⟨script, d, v, rfl, hd1, by omega, by omega, rfl⟩) (by rw [hos]))))
    (ss_cons (XS.pubA 5 (s_set 5 hF (XE.is (t := .mL ((fulls os d v).map lI)) (x_call L.lfull hF (by decide) (xa_cons (xv 4 hF) (xa_cons (xv 2 hF) xa_nil)) rfl ⟨os, v, rfl, by omega, by omega, fun o hm => by rw [ho.olen hm]; omega, rfl⟩) (by rw [hol]))))
    (ss_cons (s_set 6 hF (XD.is (da := tI (irg v d)) (x_tupRg2 (m := v) (n := v + d) T.tuple T.range hF (xv 2 hF) (xv 3 hF) (by omega) (by omega)) (by rw [Nat.add_sub_cancel_left])))
    (ss_cons (XS.pubA 7 (s_set 7 hF (x_call L.lub hF (by decide) (xa_cons (xv 5 hF) xa_nil) rfl ⟨os, d, v, rfl, ho, rfl⟩)))
    (ss_cons (XS.pubA 8 (s_set 8 hF (XE.is (t := .mL ((sortR (roomsU os d v)).map tI)) (o_sorted T.sorted hF (XQ.is (ds' := (roomsU os d v).map tI) (q_mL (o_catL hF (q_of (xv 7 hF)) (q_mL (o_lst (xa_cons (xv 6 hF) xa_nil))) ?_)) ?_) (ok_rows ?_ (.inl ?_))) (by rw [sort_rows]))))
    (ss_cons (XS.pubA 9 (s_setLcm 9 [18] [("row", 18)] (defScope (top 54)) os lI lI hF (i_sq hF (xv 4 hF)) (by omega) fun hB o hm => ⟨_, g_name 18 hB, XE.pub (o_list T.list hB (q_of (xv 18 hB)))⟩))
    (ss_cons ht
    (ss_cons (s_set 10 hF (x_repr T.repr hF (fun _ => rfl) (xv 9 hF) r1 r2 r3 r4 r5))
    (ss_cons (XS.pubA 11 (s_setLcm 11 [18] [("row", 18)] (defScope (top 54)) (fulls os d v) lI tI hF (i_sq hF (xv 5 hF)) (by omega) fun hB o hm => ⟨_, g_name 18 hB, x_tupL T.tuple hB (q_of (xv 18 hB))⟩))
    (ss_cons (s_set 12 hF (x_call L.full hF (by decide) (xa_cons (xv 9 hF) xa_nil) rfl ⟨t, os, d, v, rfl, ho, rfl⟩))
    (ss_cons (s_ifN (XB.is (b_not (b_val (x_lend (i := 12) L.same2 hF (by decide) rfl rfl (xv 11 hF) ⟨_, _, rfl, hsf, rfl⟩))) rfl))
    (ss_cons (s_setIx (jj := 0) 12 hF rfl x_int (x_tup xa_nil) rfl ?_)
    (ss_cons (s_append 12 hF rfl (x_tup xa_nil) ?_)
    (ss_cons (s_ifN (XB.is (b_not (b_val (x_call L.same2 hF (by decide) (xa_cons (XE.pub (x_call L.full hF (by decide) (xa_cons (xv 9 hF) xa_nil) rfl ⟨t, os, d, v, rfl, ho, rfl⟩)) (xa_cons (xv 11 hF) xa_nil)) rfl ⟨_, _, rfl, hsf, rfl⟩))) rfl))
    (ss_cons (s_ifN (XB.is (b_not (b_val (x_call L.bookr hF (by decide) (xa_cons (xv 9 hF) (xa_cons (xv 3 hF) (xa_cons (xv 1 hF) (xa_cons (xv 8 hF) (xa_cons (XE.pub (x_call L.terms hF (by decide) (xa_cons (xv 5 hF) (xa_cons (xv 7 hF) (xa_cons (xv 6 hF) xa_nil))) rfl ⟨fulls os d v, ubR os d v, irg v d, rfl, t1, t2, t3, rfl⟩)) xa_nil))))) rfl ⟨t, os, d, v, by rw [t0], ho, rfl⟩))) rfl))
    (ss_cons (s_ifN (XB.is (b_w (w_or (b_not (b_val (x_call L.facesr hF (by decide) (xa_cons (xv 9 hF) (xa_cons (xv 8 hF) xa_nil)) rfl ⟨t, os, d, v, rfl, ho, rfl⟩))) fun _ => w_or1 (b_not (b_val (x_call L.refr hF (by decide) (xa_cons (xv 0 hF) (xa_cons (xv 9 hF) (xa_cons (xv 3 hF) (xa_cons (xv 1 hF) (xa_cons (xv 8 hF) xa_nil))))) rfl ⟨script, t, os, d, v, rfl, ho, rfl⟩))))) rfl))
      (ss_wk (.same (.same (.same (.same (.same (.same (.same (.same (.same (.same (.same (.same (.drop (.same (.same (.same (.same (.same (.same (.same (.same .nil))))))))))))))))))))) hb)))))))))))))))))))), hob⟩
  · exact .inl ⟨by decide, by decide⟩
  · rw [List.length_map]
    show _ + 1 ≤ _
    omega
  · unfold roomsU
    rw [List.map_append]
    rfl
  · omega
  · intro r hr z
    have := (roomsU_ok ho hr).2.2
    rw [z] at this
    simp at this
    omega
  · rw [List.length_map, hfl]
    omega
  · rw [List.length_set, List.length_map, hfl]
    omega
end
end K84
/-! part FHead -/
set_option Elab.async false
set_option linter.all false
set_option maxRecDepth 100000
set_option maxHeartbeats 2000000
/-! The head's facts, by a hook of our own: the part of the heap that is looked at holds no list; defs are named by how they are found (getters of properties, defs with a cell too); more facts by a Bool. -/
namespace FX
open PySem PySem.Spec PyProof.Rows L2 Evl He
def isLst (o : Obj) : Bool := match o.cls with
  | .type c => decide (c = "list")
  | _ => false
def frL (g : Addr → Option Obj) (as : List Addr) : PySem.W.Frag := (frG g as).filter fun q => !isLst q.2
theorem look_mem {a : Addr} {o : Obj} : ∀ {l : List (Addr × Obj)}, l.lookup a = some o → (a, o) ∈ l
  | [], h => by cases h
  | (b, u) :: r, h => by
    rw [List.lookup_cons] at h
    cases q : (a == b) with
    | true =>
      rw [q] at h
      rw [beq_iff_eq.mp q, Option.some.inj h]
      exact List.mem_cons_self
    | false =>
      rw [q] at h
      exact List.mem_cons_of_mem _ (look_mem h)
theorem frL_both {g : Addr → Option Obj} {as : List Addr} {a : Addr} {o : Obj} (h : (frL g as).lookup a = some o) : g a = some o ∧ isLst o = false := by
  obtain ⟨h1, h2⟩ := List.mem_filter.mp (look_mem h)
  have h3 : isLst o = false := by simpa using h2
  refine ⟨?_, h3⟩
  unfold frG at h1
  obtain ⟨b, _, e⟩ := List.mem_filterMap.mp h1
  obtain ⟨u, e1, e2⟩ := Option.map_eq_some_iff.mp e
  cases e2
  exact e1
theorem frL_in {as : List Addr} {h : Heap} : (frL h.get? as).In h := fun _ _ e => (frL_both e).1
/-! ### defs -/
abbrev FnY : Type := Option (Str × Str × Arguments × FuncBody × Scope × Addr × List Str × Addr)
def fnY (K : PySem.W.Frag) (f : Addr) : FnY := match K.lookup f with
  | some ⟨_, _, .func fd, _⟩ => some (fd.name, fd.qualname, fd.params, fd.body, fd.scope, fd.globals, fd.closure.map (·.1), fd.builtins)
  | _ => none
/-- one def: how it is found, its name, qualified name, parameters, body, scope, its cells' names -/
structure DefY where
  at_ : PySem.W.Frag → Addr
  name : Str
  qual : Str
  params : Arguments
  body : List Stmt
  scope : Scope
  cl : List Str
def DefY.val (d : DefY) : FnY := some (d.name, d.qual, d.params, .stmts d.body, d.scope, mainGlobals, d.cl, builtinsNs)
def noneV : Value → Bool
  | .none => true
  | _ => false
theorem noneV_ok {v : Value} (h : noneV v = true) : v = .none := by
  cases v with
  | none => rfl
  | _ => cases h
def DefY.ok (K : PySem.W.Frag) (d : DefY) : Bool := PySem.W.keepIn K (.ref (d.at_ K)) && (match K.lookup (d.at_ K) with
  | some ⟨_, _, .func fd, _⟩ => PySem.W.codeIn K fd.code d.qual && noneV fd.defaults
  | _ => false)
theorem DefY.funD {K : PySem.W.Frag} {d : DefY} (hc : d.cl = []) (e : fnY K (d.at_ K) = d.val) (c : d.ok K = true) : ∃ fd, FunD K d.name d.qual d.params d.body d.scope [] [] (d.at_ K) fd := by
  obtain ⟨kp, c2⟩ := ba c
  unfold fnY at e
  cases q : K.lookup (d.at_ K) with
  | none =>
    rw [q] at c2
    cases c2
  | some o =>
    obtain ⟨oc, od, dt, osl⟩ := o
    rw [q] at c2 e
    cases dt with
    | func fd =>
      obtain ⟨n1, n2, n3, n4, n5, n6, n7, n8, n9, n10, n11, n12, n13, n14, n15⟩ := fd
      have e2 : (some (n1, n2, n3, n4, n5, n6, n7.map (·.1), n15) : FnY) = some (d.name, d.qual, d.params, .stmts d.body, d.scope, mainGlobals, d.cl, builtinsNs) := e
      simp only [Option.some.injEq, Prod.mk.injEq, hc, List.map_eq_nil_iff] at e2
      obtain ⟨h1, h2, h3, h4, h5, h6, h7, h8⟩ := e2
      subst h1 h2 h3 h4 h5 h6 h7 h8
      obtain ⟨k1, k2⟩ := ba (show (PySem.W.codeIn K n13 d.qual && noneV n8) = true from c2)
      have k3 := noneV_ok k2
      subst k3
      exact ⟨_, ⟨oc, od, .none, n9, n10, n11, n12, n13, n14, osl, rfl, q, k1, .inl ⟨rfl, rfl⟩, .inl rfl⟩, kp⟩
    | _ => cases c2
/-! ### .. the hook -/
abbrev AlY : Type := Bool × List FnY
def obsY (fa : List Fa) (fs : List DefY) (ex : PySem.W.Frag → Bool) (K : PySem.W.Frag) : AlY := ((fa.all fun f => f.ok K) && ((fs.all fun d => d.ok K) && ex K), fs.map fun d => fnY K (d.at_ K))
def valY (fs : List DefY) : AlY := (true, fs.map DefY.val)
structure SaysY (fa : List Fa) (fs : List DefY) (ex : PySem.W.Frag → Bool) (K : PySem.W.Frag) : Prop where
  eq : obsY fa fs ex K = valY fs
  nol : ∀ a o, K.lookup a = some o → isLst o = false
def asY (g : Addr → Option Obj) : Nat → List Addr
  | 0 => [mainGlobals, cStatics]
  | n + 1 => growD g (asY g n)
def obsYG (n : Nat) (fa : List Fa) (fs : List DefY) (ex : PySem.W.Frag → Bool) (g : Addr → Option Obj) : AlY := obsY fa fs ex (frL g (asY g n))
def hookY (n : Nat) (fa : List Fa) (fs : List DefY) (ex : PySem.W.Frag → Bool) : PySem.W.Hook where
  α := AlY
  obs := fun s => obsYG n fa fs ex s.heap.get?
  val := fun _ => valY fs
  says := fun _ h => ∃ K : PySem.W.Frag, K.In h ∧ SaysY fa fs ex K
  of := fun _ _ e => ⟨_, frL_in, e, fun _ _ z => (frL_both z).2⟩
  keeps := fun _ _ _ ⟨K, hK, c⟩ k => ⟨K, PySem.W.Frag.In.keeps hK k, c⟩
theorem obsYG_eq {n : Nat} {fa : List Fa} {fs : List DefY} {ex : PySem.W.Frag → Bool} {g : Addr → Option Obj} {s : Shared} (h : ∀ a, g a = s.heap.get? a) : obsYG n fa fs ex g = (hookY n fa fs ex).obs s := by
  have e : g = s.heap.get? := funext h
  rw [e] <;> rfl
section
variable {fa : List Fa} {fs : List DefY} {ex : PySem.W.Frag → Bool} {K : PySem.W.Frag}
theorem SaysY.bools (c : SaysY fa fs ex K) : (fa.all fun f => f.ok K) = true ∧ (fs.all fun d => d.ok K) = true ∧ ex K = true := by
  obtain ⟨h1, h2⟩ := ba (show ((fa.all fun f => f.ok K) && ((fs.all fun d => d.ok K) && ex K)) = true from congrArg (fun z : AlY => z.1) c.eq)
  exact ⟨h1, ba h2⟩
theorem SaysY.fact (c : SaysY fa fs ex K) (i : Nat) {f : Fa} (h : fa[i]? = some f := by rfl) : f.ok K = true := List.all_eq_true.mp c.bools.1 f (List.mem_of_getElem? h)
theorem SaysY.factM (c : SaysY fa fs ex K) {f : Fa} (h : f ∈ fa) : f.ok K = true := List.all_eq_true.mp c.bools.1 f h
theorem SaysY.fn (c : SaysY fa fs ex K) (i : Nat) {d : DefY} (h : fs[i]? = some d := by rfl) : fnY K (d.at_ K) = d.val ∧ d.ok K = true := by
  have e : fs.map (fun d => fnY K (d.at_ K)) = fs.map DefY.val := congrArg (fun z : AlY => z.2) c.eq
  have e2 := congrArg (fun l => l[i]?) e
  have e3 : (fs.map fun d => fnY K (d.at_ K))[i]? = (fs.map DefY.val)[i]? := e2
  rw [List.getElem?_map, List.getElem?_map, h] at e3
  exact ⟨Option.some.inj e3, List.all_eq_true.mp c.bools.2.1 d (List.mem_of_getElem? h)⟩
theorem SaysY.def_ (c : SaysY fa fs ex K) (i : Nat) {d : DefY} (h : fs[i]? = some d := by rfl) (hc : d.cl = [] := by rfl) : ∃ fd, FunD K d.name d.qual d.params d.body d.scope [] [] (d.at_ K) fd := DefY.funD hc (c.fn i h).1 (c.fn i h).2
end
/-! ### more facts -/
/-- the property f of the class x: its record, its getter -/
def pRec (x f : Str) (K : PySem.W.Frag) : Addr := ma K (ga K x) f
def pGet (x f : Str) (K : PySem.W.Frag) : Addr := match PySem.W.recIn K (pRec x f K) "property" with
  | some (.ref g :: _) => g
  | _ => 0
def propB (x f : Str) (K : PySem.W.Frag) : Bool := eqO (PySem.W.findIn K (.ref (ga K x)) f) (some (some (.ref (pRec x f K)))) && (eqO (PySem.W.specialIn K (.ref (pRec x f K)) "__get__") (some (some (.builtin "property.__get__"))) && (decide (PySem.W.takesIn K (.ref (pRec x f K)) = some true) && (match PySem.W.recIn K (pRec x f K) "property" with
  | some (.ref _ :: _) => true
  | _ => false)))
theorem propB_ok {x f : Str} {K : PySem.W.Frag} (h : propB x f K = true) : PropOf K (ga K x) f (pRec x f K) (pGet x f K) := by
  obtain ⟨h1, h⟩ := ba h
  obtain ⟨h2, h⟩ := ba h
  obtain ⟨h3, h4⟩ := ba h
  refine ⟨eqO_ok h1, eqO_ok h2, of_decide_eq_true h3, ?_⟩
  unfold pGet
  split at h4
  · rename_i g r e
    rw [e]
    exact ⟨r, rfl⟩
  · cases h4
def creadB (x : Str) (K : PySem.W.Frag) : Bool := PySem.W.readsIn K (ga K x) (.type "type") && eqO (PySem.W.specialIn K (.ref (ga K x)) "__getattribute__") (some (some (.builtin "type.__getattribute__")))
theorem creadB_ok {x : Str} {K : PySem.W.Frag} (h : creadB x K = true) : ClX.CRead K (ga K x) (.type "type") := ⟨(ba h).1, eqO_ok (ba h).2⟩
def cvalB (x f : Str) (i : Int) (K : PySem.W.Frag) : Bool := match PySem.W.findCls K (.ref (ga K x)) (.type "type") f with
  | some (.val (.int j _)) => decide (j = i)
  | _ => false
theorem cvalB_ok {x f : Str} {i : Int} {K : PySem.W.Frag} (h : cvalB x f i K = true) : ∃ u, ClX.CVal K (ga K x) (.type "type") f (.int i) u := by
  unfold cvalB at h
  split at h
  · rename_i j t e
    have := of_decide_eq_true h
    subst this
    exact ⟨_, e, ⟨t, rfl⟩⟩
  · cases h
def insB (x : Str) (K : PySem.W.Frag) : Bool := (Fa.cls x).ok K && (eqO (PySem.W.findIn K (.ref (ga K x)) "__class__") (some (some (.builtin "object.__class__"))) && (eqO (PySem.W.specialIn K (.builtin "object.__class__") "__get__") (some (some (.builtin "getset_descriptor.__get__"))) &&
  (decide (PySem.W.takesIn K (.builtin "object.__class__") = some true) && decide (PySem.W.mroIn K (ga K x) (.type "object") = some true))))
theorem insB_ok {x : Str} {K : PySem.W.Frag} (h : insB x K = true) : InsOk K (ga K x) := by
  obtain ⟨h1, h⟩ := ba h
  obtain ⟨h2, h⟩ := ba h
  obtain ⟨h3, h⟩ := ba h
  obtain ⟨h4, h5⟩ := ba h
  exact ⟨cls_ok h1, eqO_ok h2, eqO_ok h3, of_decide_eq_true h4, of_decide_eq_true h5⟩
def exoD (C : Addr) (cd : ClassData) (sl : Array (Option Value)) : Bool := match cd.mro, sl.toList with
  | .ref D :: bm, [_, _, _, _, some (.builtin n), _] => decide (D = C) && (decide (n = "ValueError.__new__") && (!cd.hasDel && (cd.hasDict && PySem.HandSPX.refsVE bm)))
  | _, _ => false
def exoB (K : PySem.W.Frag) (C : Addr) : Bool := match K.lookup C with
  | some ⟨.type c, _, .cls cd, sl⟩ => decide (c = "type") && exoD C cd sl
  | _ => false
theorem exoB_ok {K : PySem.W.Frag} {C : Addr} (h : exoB K C = true) : ∃ nm q N bs bm sn sub ab col dd k0 k1 k2 k3 k5, K.lookup C = some (excClassObj nm q C N bs bm true sn sub ab col dd k0 k1 k2 k3 k5 "ValueError.__new__") ∧ PySem.HandSPX.refsVE bm = true := by
  unfold exoB at h
  split at h
  · rename_i c dd cd sl e
    obtain ⟨g0, g⟩ := ba h
    have g0 := of_decide_eq_true g0
    unfold exoD at g
    split at g
    · rename_i D bm k0 k1 k2 k3 n k5 e1 e2
      obtain ⟨h1, g⟩ := ba g
      obtain ⟨h2, g⟩ := ba g
      obtain ⟨h3, g⟩ := ba g
      obtain ⟨h4, h5⟩ := ba g
      have h1 := of_decide_eq_true h1
      have h2 := of_decide_eq_true h2
      obtain ⟨nm, bs, mro, ns, qn, hd, sn, sub, ab, col, del⟩ := cd
      have e1 : mro = .ref D :: bm := e1
      have h3 : (!del) = true := h3
      have h4 : hd = true := h4
      have h3 : del = false := by simpa using h3
      obtain ⟨l⟩ := sl
      have e2 : l = [k0, k1, k2, k3, some (.builtin n), k5] := e2
      refine ⟨nm, qn, ns, bs, bm, sn, sub, ab, col, dd, k0, k1, k2, k3, k5, ?_, h5⟩
      rw [e, g0, e1, e2, h1, h2, h3, h4]
    · cases g
  · cases h
def oexB (x : Str) (K : PySem.W.Frag) : Bool := exoB K (ga K x) && (eqO (PySem.W.findIn K (.ref (ga K x)) "__setattr__") (some (some (.builtin "object.__setattr__"))) && (decide (PySem.W.subIn K (.ref (ga K x)) (.type "BaseException") = some true) && (decide (PySem.W.typeIn K (.ref (ga K x)) = some (.type "type")) && PySem.W.keepIn K (.ref (ga K x)))))
theorem oexB_ok {x : Str} {K : PySem.W.Frag} (h : oexB x K = true) : OexC K (ga K x) := by
  obtain ⟨h1, h⟩ := ba h
  obtain ⟨h2, h⟩ := ba h
  obtain ⟨h3, h⟩ := ba h
  obtain ⟨h4, h5⟩ := ba h
  exact ⟨exoB_ok h1, eqO_ok h2, of_decide_eq_true h3, of_decide_eq_true h4, h5⟩
/-- the __init__ of the exception class x -/
def iAd (x : Str) (K : PySem.W.Frag) : Addr := ma K (ga K x) "__init__"
def strAt : Option PySem.Obj → Option Str
  | some ⟨_, _, .fields vs, _⟩ => (match (vs[2]? : Option Value) with
    | some (.str f _) => some f
    | _ => none)
  | _ => none
def cellAt : Option PySem.Obj → Option Addr
  | some ⟨_, _, .cell (some (.ref D)), _⟩ => some D
  | _ => none
theorem strAt_ok {o : Option PySem.Obj} {f : Str} (h : strAt o = some f) : ∃ ccl cdd vs ccs tf, o = some ⟨ccl, cdd, .fields vs, ccs⟩ ∧ vs[2]? = some (.str f tf) := by
  unfold strAt at h
  split at h
  · rename_i ccl cdd vs ccs
    split at h
    · rename_i g tf e
      cases h
      exact ⟨ccl, cdd, vs, ccs, tf, rfl, e⟩
    · cases h
  · cases h
theorem cellAt_ok {o : Option PySem.Obj} {D : Addr} (h : cellAt o = some D) : ∃ o1 o2 o3, o = some ⟨o1, o2, .cell (some (.ref D)), o3⟩ := by
  unfold cellAt at h
  split at h
  · rename_i o1 o2 D' o3
    cases h
    exact ⟨o1, o2, o3, rfl⟩
  · cases h
def refAt : Value → Option Addr
  | .ref a => some a
  | _ => none
theorem refAt_ok {v : Value} {a : Addr} (h : refAt v = some a) : v = .ref a := by
  cases v with
  | ref b => exact congrArg Value.ref (Option.some.inj h)
  | _ => cases h
def oneAt : List (Str × Addr) → Option Addr
  | [(_, c)] => some c
  | _ => none
def supF (P : Program) (x qual : Str) (K : PySem.W.Frag) : Bool := match K.lookup (iAd x K) with
  | some ⟨_, _, .func fd, _⟩ => (match refAt fd.code, oneAt fd.closure with
    | some cda, some cc => PySem.W.codeIn K (.ref cda) qual && (decide (strAt (K.lookup cda) = some P.main.file) && (decide (cellAt (K.lookup cc) = some (ga K x)) && noneV fd.defaults))
    | _, _ => false)
  | _ => false
def supB (P : Program) (x qual : Str) (K : PySem.W.Frag) : Bool := supF P x qual K && (!(P.main.scope.names.lookup ("super" : Str)).isSome && (eqO (PySem.W.nsIn K cStatics "thirdparty.any") (some none) && (eqO (PySem.W.ks_superIn K (ga K x) (ga K x) "__init__") (some (some (.builtin "ValueError.__init__"))) && (decide (PySem.W.subIn K (.ref (ga K x)) (.type "ValueError") = some true) &&
    (eqO (PySem.W.findIn K (.ref (ga K x)) "__init__") (some (some (.ref (iAd x K)))) && decide (PySem.W.typeIn K (.ref (iAd x K)) = some (.type "function")))))))
theorem supB_ok {P : Program} {x qual : Str} {params : Arguments} {body : List Stmt} {scope : Scope} {K : PySem.W.Frag} {mg : Str → Option Value} (h : supB P x qual K = true) (hs : mg "super" = none) (e : fnY K (iAd x K) = (DefY.mk (iAd x) "__init__" qual params body scope ["__class__"]).val) :
    (∃ fd, SupD P K mg (ga K x) (iAd x K) qual params body scope fd ∧ fd.defaults = .none) ∧ PySem.W.findIn K (.ref (ga K x)) "__init__" = some (some (.ref (iAd x K))) ∧ PySem.W.typeIn K (.ref (iAd x K)) = some (.type "function") := by
  obtain ⟨h0, h⟩ := ba h
  obtain ⟨h1, h⟩ := ba h
  obtain ⟨h2, h⟩ := ba h
  obtain ⟨h3, h⟩ := ba h
  obtain ⟨h4, h⟩ := ba h
  obtain ⟨h5, h6⟩ := ba h
  refine ⟨?_, eqO_ok h5, of_decide_eq_true h6⟩
  unfold fnY at e
  unfold supF at h0
  split at h0
  · rename_i oc od fd osl q
    rw [q] at e
    split at h0
    · rename_i cda cc ec eo
      obtain ⟨g1, gb⟩ := ba h0
      obtain ⟨g2, gc⟩ := ba gb
      obtain ⟨g3, g5⟩ := ba gc
      obtain ⟨n1, n2, n3, n4, n5, n6, n7, n8, n9, n10, n11, n12, n13, n14, n15⟩ := fd
      have e2 : (some (n1, n2, n3, n4, n5, n6, n7.map (·.1), n15) : FnY) = (DefY.mk (iAd x) "__init__" qual params body scope ["__class__"]).val := e
      simp only [DefY.val, Option.some.injEq, Prod.mk.injEq] at e2
      obtain ⟨k1, k2, k3, k4, k5, k6, k7, k8⟩ := e2
      have ec2 : n13 = .ref cda := refAt_ok ec
      have eo : oneAt n7 = some cc := eo
      clear ec
      have en : n7 = [(("__class__" : Str), cc)] := by
        match n7, eo, k7 with
        | [(y, c)], eo, k7 =>
          have h1 : c = cc := Option.some.inj eo
          have h2 : y = ("__class__" : Str) := by simpa using k7
          rw [h1, h2]
      subst k1 k2 k3 k4 k5 k6 k8 ec2 en
      obtain ⟨ccl, cdd, vs, ccs, tf, ecd, ef⟩ := strAt_ok (of_decide_eq_true g2)
      obtain ⟨o1, o2, o3, ecc⟩ := cellAt_ok (of_decide_eq_true g3)
      exact ⟨_, ⟨⟨oc, od, n8, n9, n10, n11, n12, cda, n14, osl, cc, rfl, q, g1, ⟨ccl, cdd, vs, ccs, _, tf, ecd, ef, beq_self_eq_true _⟩, ⟨o1, o2, o3, ecc⟩⟩, by simpa using h1, hs, eqO_ok h2, eqO_ok h3, of_decide_eq_true h4⟩, noneV_ok g5⟩
    · cases h0
  · cases h0
/-- its call -/
theorem SupD.binds {P : Program} {K : PySem.W.Frag} {mg : Str → Option Value} {C fI : Addr} {qual : Str} {params : Arguments} {body : List Stmt} {scope : Scope} {fd : FuncData} {ps : List Str} (SD : SupD P K mg C fI qual params body scope fd) (hn : fd.defaults = .none)
    (hb : ∀ (kV doc pm : Value) (an : Option Addr) (cdv ct : Value) (cc : Addr) (us : List Value), us.length = ps.length → bindArgs (PySem.W.fnX "__init__" qual params body scope [("__class__", cc)] .none kV doc pm an cdv ct) ⟨us, []⟩ = pure (ps.zip us)) : Binds K fd ps [] := by
  obtain ⟨oc, od, dV, kV, doc, pm, an, cda, ct, osl, cc, rfl, _⟩ := SD.ex
  have hn : dV = .none := hn
  subst hn
  exact .all (hb kV doc pm an _ ct cc)
end FX
/-! part FEnd -/
set_option Elab.async false
set_option linter.all false
set_option maxRecDepth 100000
set_option maxHeartbeats 2000000
/-! The law's own call, where the surroundings are known to the letter: no guard of the stack stands (repr needs that). -/
namespace FX
open PySem PySem.Spec PyProof.Rows L2 Evl
section
variable {P : Program} {w : World} {K : PySem.W.Frag} {mg : Str → Option Value} {base : Heap} {x qual : Str} {params : Arguments} {body : List Stmt} {scope : Scope} {f : Addr} {fd : FuncData}
/-- a def called in the surroundings A: what its body does there -/
theorem run_at {CX : CXT} {N ps : List Str} {A : Around} {outer : List PySem.Env} {s : Shared} {H : Hp} {args : Args} {us : List Value} {vs : List V} {Q : VK} {E : XK}
    (F : FunD K x qual params body scope [] [] f fd) (S : FnScope N ps scope) (free : A.handled = none) (deep : A.depth < recursionLimit) (here : Env0 P w K mg base A outer s H) (binds : BindsTo s fd args (ps.zip us)) (many : vs.length = ps.length) (rel : Vals vs us)
    (does : ∀ cdv : Value, ∃ t, PSs (cxOf CX P w K mg base N qual scope f cdv A outer s H E) body t ∧ t { nx := fun _ H' => Q .non H', rt := Q } (start N vs) H) :
    codeAny (model P w) A (.call (.ref f) args) (CR CX outer P w H s Q E) s := by
  obtain ⟨ocl, odt, dflt, kwd, docv, pmod, anno, code, ctab, oslots, rfl, found, coded, -, -⟩ := F.ex
  have kept : ∀ b o, base.get? b = some o → s.heap.get? b = some o := fun b o e => (here.bs b o e).1
  have inS : K.In s.heap := here.mod.kin.keeps kept
  have kinds : ∀ y ∈ ps.zip us, scope.names.lookup y.1 = some .local ∨ (scope.names.lookup y.1 = some .cell ∧ ((cellsFrom (s.heap.objs.size + 1) scope.names []).lookup y.1).isSome = true) := by
    rintro ⟨n, v⟩ hy
    exact (S.par n (List.of_mem_zip hy).1).imp id fun q => ⟨q, PySem.W.cellsFrom_some _ _ _ (.inl q)⟩
  refine codeAny_call_function deep (inS _ _ found) rfl S.co S.gen rfl (PySem.W.codeRec_of inS coded) (binds _ _ _ _ (wpAny_newFunctionEnv_cells S.kind kinds fun env he s1 made => ?_))
  subst he
  refine ⟨(here.mod.nolimit.keeps kept).keeps made.toInCall.keep, codeAny_func ?_⟩
  obtain ⟨t, ht, hq⟩ := does code
  have I : Inv (cxOf CX P w K mg base N qual scope f code A outer s H E) [] (start N vs) H s1 := inv_start S free here many rel made
  refine wpAny_mono (ht.run [] s1 (start N vs) H _ I hq) (fun fl s' hs => ?_) fun _ _ z => z
  match fl, hs with
  | .ret u, ⟨v, _, H', J, rv, q⟩ => exact ⟨v, H', J.os, J.bare, J.base, J.hok, rv, q⟩
  | .next, ⟨_, H', J, q⟩ => exact ⟨V.non, H', J.os, J.bare, J.base, J.hok, rfl, q⟩
  | .brk, ⟨_, _, _, q⟩ => exact q.elim
  | .cont, ⟨_, _, _, q⟩ => exact q.elim
end
/-- the script alone is tracked -/
def hpOf (a : Addr) (o : PySem.Obj) (ns : List Int) : Hp := fun b => if b = a then some (.frz o (.lst (ns.map V.int))) else none
theorem hpOf_at {a : Addr} {o : PySem.Obj} {ns : List Int} : hpOf a o ns a = some (.frz o (.lst (ns.map V.int))) := if_pos rfl
theorem hpOf_not {a b : Addr} {o : PySem.Obj} {ns : List Int} (h : b ≠ a) : hpOf a o ns b = none := if_neg h
theorem hpOf_some {a b : Addr} {o : PySem.Obj} {ns : List Int} {u : HO} (h : hpOf a o ns b = some u) : b = a ∧ u = .frz o (.lst (ns.map V.int)) := by
  by_cases c : b = a
  · subst c
    rw [hpOf_at] at h
    exact ⟨rfl, (Option.some.inj h).symm⟩
  · rw [hpOf_not c] at h
    cases h
/-- the end: K holds no list, the law's def is called in callerA, the script is a list that is tracked, and locked -/
theorem law_at {l : PySem.W.OpenLaw} {n : Nat} {q : Program} {loose : List Str} {XP : (Str → Option Value) → Heap → Prop} {YP : World → Heap → Prop} {d : DefRec} (hn : l.most = some n) (hn2 : n ≤ sizeLine) (hdf : d.params.defaults = [])
    (F : ∀ (w : World) (mg : Str → Option Value) (fa : Addr) (h : Heap), YP w h → h.Ns mainGlobals mg → mg d.name = some (.ref fa) → ∃ K : PySem.W.Frag, K.In h ∧ (∀ a o, K.lookup a = some o → isLst o = false) ∧
      ∀ (base : Heap) (s : Shared) (H : Hp) (a : Addr) (o : PySem.Obj) (ns : List Int), ns.length ≤ n → H a = some (.frz o (.lst (ns.map V.int))) → Env0 l.prog w K mg base callerA [] s H →
        codeAny (model l.prog w) callerA (.call (.ref fa) ⟨[.ref a], []⟩) (CR CX0 [] l.prog w H s (fun v _ => v = .bl true) fun _ _ _ => False) s) :
    PySem.W.WalkO q loose XP YP l.row.toRowW d [] (fun f vs => PySem.call f vs) := by
  refine Att.attach_call hn hdf fun w s₀ s mg mb fa _ _ _ _ a vs ns G Y _ _ _ hmg hobj hints hlen hg => ?_
  obtain ⟨K, KX, noL, hF⟩ := F w mg fa _ Y G.T.g hmg
  have rel := vals_ints hints
  have lenV := hints.length
  generalize ho : ({ cls := .type "list", data := .seq vs.toArray } : PySem.Obj) = o at hobj
  have outK : K.lookup a = none := by
    cases e : K.lookup a with
    | none => rfl
    | some u =>
      have h1 := KX a u e
      have h2 := noL a u e
      rw [hobj] at h1
      rw [← Option.some.inj h1, ← ho] at h2
      exact absurd (show true = false from h2) (by decide)
  have only : ∀ {b : Addr}, b ≠ a → hpOf a o ns b = none := hpOf_not
  have dictNot : ∀ {b : Addr} {u : PySem.Obj} {es : Array DictEntry} {ep : Nat}, s.heap.get? b = some u → u.data = .dict es ep → b ≠ a := fun {b u es ep} e e2 z => by
    rw [z, hobj] at e
    rw [← Option.some.inj e, ← ho] at e2
    cases e2
  have nsB : ∀ {b : Addr} {m : Str → Option Value}, s.heap.Ns b m → (hidT s.heap (hpOf a o ns)).Ns b m := by
    rintro b m ⟨u, es, ep, e, e2, r⟩
    exact ⟨u, es, ep, hidT_get e (only (dictNot e e2)), e2, r⟩
  have inB : K.In (hidT s.heap (hpOf a o ns)) := fun b u e => hidT_get (KX b u e) (only fun z => by rw [z, outK] at e; cases e)
  have ok : HOk l.prog w (hpOf a o ns) s.heap := fun b u z => by
    obtain ⟨rfl, rfl⟩ := hpOf_some z
    exact ⟨hobj, by rw [List.length_map]; omega, vs, 0, rel, by rw [hobj, ← ho]⟩
  obtain ⟨mc, l1, l2⟩ := G.T.nolimit
  have here : Env0 l.prog w K mg (hidT s.heap (hpOf a o ns)) callerA [] s (hpOf a o ns) :=
    ⟨rfl, ⟨inB, nsB G.T.g, ⟨mb, nsB G.T.b, G.T.builtins⟩, ⟨mc, nsB l1, l2⟩⟩, fun _ _ e => of_hidT e, Nat.le_of_eq (hidT_size _ _), trivial, fun _ z => (nomatch z), ok, .of_eq hg⟩
  refine codeAny_mono (hF _ s _ a o ns hlen hpOf_at here) fun r s' hr => ?_
  match r, hr with
  | .error _, z => exact False.elim z
  | .ok .next, z => exact False.elim z
  | .ok .brk, z => exact False.elim z
  | .ok .cont, z => exact False.elim z
  | .ok (.ret u), ⟨v, H', os, bare, un, ok', rv, qv⟩ =>
    have qv : v = .bl true := qv
    subst qv
    have ru : u = Value.bool true := rv
    subst ru
    refine ⟨rfl, OldK.of_keep fun b o' e => ?_, os, bare⟩
    by_cases c : b = a
    · subst c
      have h1 := (ok' b _ (un.frzs b o _ hpOf_at)).1
      rw [hobj] at e
      rw [← Option.some.inj e]
      exact h1
    · exact un.keep b o' e (only c) (fun z => (nomatch z)) (by simp)
end FX
/-! part Hd -/
set_option Elab.async false
set_option linter.all false
set_option maxRecDepth 100000
set_option maxHeartbeats 0
namespace K84
open PySem PySem.Spec PyProof.Rows L2 Evl FX M84
abbrev R : PySem.W.OpenRow := PySem.W.OpenLaw.row PySem.Challenge.rw_oppositesmeet_k84_unbeaten_books_and_the
def dG (x : Str) (i : Nat) : DefY := ⟨fun K => He.ga K x, x, x, defArgs (top i), defBody (top i), defScope (top i), []⟩
def dM (c m q : Str) (i j : Nat) : DefY := ⟨fun K => He.ma K (He.ga K c) m, m, q, defArgs (meth i j), defBody (meth i j), defScope (meth i j), []⟩
def dP (c m q : Str) (i j : Nat) : DefY := ⟨pGet c m, m, q, defArgs (meth i j), defBody (meth i j), defScope (meth i j), []⟩
def dS (c q : Str) (i j : Nat) : DefY := ⟨iAd c, "__init__", q, defArgs (meth i j), defBody (meth i j), defScope (meth i j), ["__class__"]⟩
def fs1 : List DefY := [dG "faces" 9, dG "without" 10, dG "exchanged" 11, dG "subsets" 13, dG "order_sign" 14, dG "room_fault" 16, dG "face_counts" 19, dG "check_orders" 25, dG "full_orders" 26, dG "own_places" 27, dG "first_of" 28, dG "places_above" 29, dG "above_in_all" 30, dG "least_row" 31,
  dG "unbeaten_rooms" 32, dG "unbeaten_book" 33, dG "unbeaten_chain" 34, dG "other_unbeaten" 35, dG "is_signed" 37]
def fs2 : List DefY := [dG "_law_cell" 39, dG "_law_same" 40, dG "_law_order" 41, dG "_law_rooms" 42, dG "_law_table" 43, dG "_law_sign" 44, dG "_law_orders" 45, dG "_law_full" 46, dG "_law_least_row" 47, dG "_law_unbeaten" 48, dG "_law_terms" 49, dG "_law_refused" 50, dG "_law_faces_right" 51, dG "_law_book_right" 52, dG "_law_refusals_right" 53, dG "law" 54]
def fs3 : List DefY := [dM "Book" "__init__" "Book.__init__" 18 1, dM "Book" "__eq__" "Book.__eq__" 18 3, dP "Book" "is_even" "Book.is_even" 18 9, dP "Book" "is_two_each" "Book.is_two_each" 18 10, dM "Book" "odd_faces" "Book.odd_faces" 18 11,
  dM "Chain" "__init__" "Chain.__init__" 21 0, dM "Chain" "__len__" "Chain.__len__" 21 4, dM "Chain" "__abs__" "Chain.__abs__" 21 14, dM "Chain" "boundary" "Chain.boundary" 21 16, dM "Chain" "odd_book" "Chain.odd_book" 21 18, dS "Mismatch" "Mismatch.__init__" 5 0, dS "NotARoom" "NotARoom.__init__" 6 0]
def fs : List DefY := fs1 ++ fs2 ++ fs3
def gl1 : List Str := ["faces", "without", "exchanged", "subsets", "order_sign", "room_fault", "face_counts", "check_orders", "full_orders", "own_places", "first_of", "places_above", "above_in_all", "least_row", "unbeaten_rooms", "unbeaten_book", "unbeaten_chain", "other_unbeaten", "is_signed"]
def gl2 : List Str := ["_law_cell", "_law_same", "_law_order", "_law_rooms", "_law_table", "_law_sign", "_law_orders", "_law_full", "_law_least_row", "_law_unbeaten", "_law_terms", "_law_refused", "_law_faces_right", "_law_book_right", "_law_refusals_right", "law", "Book", "Chain", "Mismatch", "NotARoom"]
def gl : List Str := gl1 ++ gl2
def fr : List Str := ["len", "range", "tuple", "list", "sorted", "set", "abs", "int", "min", "sum", "isinstance", "repr", "enumerate", "bool", "str", "super"]
def fa : List He.Fa := gl.map .glo ++ fr.map .free ++ [.int "MOST_ORDERS" 4, .int "MOST_THINGS" 8, .cls "Book", .cls "Chain", .mkr "Book", .mkr "Chain", .noat "Book" "places", .noat "Book" "size", .noat "Book" "rooms", .noat "Chain" "places", .noat "Chain" "degree", .noat "Chain" "terms",
  .meth "Book" "__eq__", .meth "Book" "odd_faces", .meth "Chain" "__len__", .meth "Chain" "__abs__", .meth "Chain" "boundary", .meth "Chain" "odd_book", .exm "NotARoom" "NotARoom" true, .exm "Mismatch" "NotARoom" false, .exm "Mismatch" "Mismatch" true, .noat "NotARoom" "room", .noat "Mismatch" "fault"]
def exs : List (PySem.W.Frag → Bool) := [propB "Book" "is_even", propB "Book" "is_two_each", creadB "Book", cvalB "Book" "MOST_PLACES" 12, insB "Book", oexB "Mismatch", oexB "NotARoom", fun K => xfB K (He.ga K "Mismatch"), fun K => xfB K (He.ga K "NotARoom"), supB R.prog "Mismatch" "Mismatch.__init__", supB R.prog "NotARoom" "NotARoom.__init__"]
def exb (K : PySem.W.Frag) : Bool := exs.all fun e => e K
abbrev hk : PySem.W.Hook := hookY 5 fa fs exb
def ob (s : PySem.W.SharedT) : AlY := obsYG 5 fa fs exb (HandSHeadRun.getT s)
theorem ob_eq (s : PySem.W.SharedT) : ob s = hk.obs s.abs := obsYG_eq (HandSHeadRun.getT_eq s)
def loose1 : List PySem.Str := ["_wall", "NeverAloneError", "BadBook", "BadChain", "Mismatch", "NotARoom", "BadOrders", "faces", "without", "exchanged", "merged", "subsets", "order_sign", "shuffle_sign", "room_fault", "Book", "face_counts", "Chain", "MOST_ORDERS", "MOST_THINGS", "check_orders", "full_orders", "own_places", "first_of", "places_above", "above_in_all", "least_row", "unbeaten_rooms", "unbeaten_book", "unbeaten_chain"]
def loose2 : List PySem.Str := ["other_unbeaten", "is_signed", "_law_cell", "_law_same", "_law_order", "_law_rooms", "_law_table", "_law_sign", "_law_orders", "_law_full", "_law_least_row", "_law_unbeaten", "_law_terms", "_law_refused", "_law_faces_right", "_law_book_right", "_law_refusals_right"]
theorem run (w : World) : HandSHeadRun.RunEq R (PySem.W.view R.prog [54]) hk ob 6000 (loose1 ++ loose2) w := by
  intro os
  kernel_rfl
end K84
/-! part Hf -/
set_option Elab.async false
set_option linter.all false
set_option maxRecDepth 100000
set_option maxHeartbeats 4000000
namespace K84
open PySem PySem.Spec PyProof.Rows L2 Evl FX M84
section
variable {w : World} {K : PySem.W.Frag} {h base : Heap} {mg : Str → Option Value}
abbrev WW (w : World) (K : PySem.W.Frag) (mg : Str → Option Value) (base : Heap) : Wd := ⟨R.prog, w, K, mg, base⟩
theorem at_glo (X : K.In h) (G : h.Ns mainGlobals mg) (c : SaysY fa fs exb K) {x : Str} (hx : x ∈ gl) : mg x = some (.ref (He.ga K x)) :=
  He.glo_ok X G (c.factM (List.mem_append_left _ (List.mem_append_left _ (List.mem_map.mpr ⟨x, hx, rfl⟩))))
theorem at_free (X : K.In h) (G : h.Ns mainGlobals mg) (c : SaysY fa fs exb K) {x : Str} (hx : x ∈ fr) : mg x = none :=
  He.free_ok X G (c.factM (List.mem_append_left _ (List.mem_append_right _ (List.mem_map.mpr ⟨x, hx, rfl⟩))))
theorem at_more (c : SaysY fa fs exb K) (i : Nat) {e : PySem.W.Frag → Bool} (h : exs[i]? = some e := by rfl) : e K = true := List.all_eq_true.mp c.bools.2.2 e (List.mem_of_getElem? h)
theorem at_def (X : K.In h) (G : h.Ns mainGlobals mg) (c : SaysY fa fs exb K) (n : Nat) {x : Str} {i : Nat} (e : fs[n]? = some (dG x i)) (hx : x ∈ gl) : HasDef (WW w K mg base) x i := by
  obtain ⟨fd, hf⟩ := c.def_ n e rfl
  exact ⟨_, fd, at_glo X G c hx, hf⟩
theorem at_bi (X : K.In h) (G : h.Ns mainGlobals mg) (c : SaysY fa fs exb K) : Bi (WW w K mg base) where
  len := at_free X G c (by decide)
  range := at_free X G c (by decide)
  tuple := at_free X G c (by decide)
  list := at_free X G c (by decide)
  sorted := at_free X G c (by decide)
  set := at_free X G c (by decide)
  abs := at_free X G c (by decide)
  int := at_free X G c (by decide)
  min := at_free X G c (by decide)
  sum := at_free X G c (by decide)
  isinstance := at_free X G c (by decide)
  repr := at_free X G c (by decide)
  enumerate := at_free X G c (by decide)
  bool := at_free X G c (by decide)
  str := at_free X G c (by decide)
theorem at_f (c : SaysY fa fs exb K) (i : Nat) {f : He.Fa} (h : fa[55 + i]? = some f := by rfl) : f.ok K = true := c.fact (55 + i) h
theorem at_nums (X : K.In h) (G : h.Ns mainGlobals mg) (c : SaysY fa fs exb K) : Nums (WW w K mg base) := ⟨He.int_ok X G (at_f c 0), He.int_ok X G (at_f c 1)⟩
theorem at_book (X : K.In h) (G : h.Ns mainGlobals mg) (c : SaysY fa fs exb K) : BkF (WW w K mg base) (He.ga K "Book") where
  gl := at_glo X G c (by decide)
  cl := He.cls_ok (at_f c 2)
  np := He.noat_ok (at_f c 6)
  nz := He.noat_ok (at_f c 7)
  nr := He.noat_ok (at_f c 8)
  mp := by
    obtain ⟨u, hu⟩ := cvalB_ok (at_more c 3)
    exact ⟨_, u, creadB_ok (at_more c 2), hu⟩
  ins := insB_ok (at_more c 4)
  init := by
    obtain ⟨fd, hf⟩ := c.def_ 35 rfl rfl
    exact ⟨_, fd, He.mkr_ok (at_f c 4), hf⟩
  eq := by
    obtain ⟨fd, hf⟩ := c.def_ 36 rfl rfl
    exact ⟨_, fd, He.meth_ok (at_f c 12), hf⟩
  even := by
    obtain ⟨fd, hf⟩ := c.def_ 37 rfl rfl
    exact ⟨_, _, fd, propB_ok (at_more c 0), hf⟩
  two := by
    obtain ⟨fd, hf⟩ := c.def_ 38 rfl rfl
    exact ⟨_, _, fd, propB_ok (at_more c 1), hf⟩
  odd := by
    obtain ⟨fd, hf⟩ := c.def_ 39 rfl rfl
    exact ⟨_, fd, He.meth_ok (at_f c 13), hf⟩
theorem at_chain (X : K.In h) (G : h.Ns mainGlobals mg) (c : SaysY fa fs exb K) : ChF (WW w K mg base) (He.ga K "Chain") where
  gl := at_glo X G c (by decide)
  cl := He.cls_ok (at_f c 3)
  np := He.noat_ok (at_f c 9)
  nd := He.noat_ok (at_f c 10)
  nt := He.noat_ok (at_f c 11)
  init := by
    obtain ⟨fd, hf⟩ := c.def_ 40 rfl rfl
    exact ⟨_, fd, He.mkr_ok (at_f c 5), hf⟩
  len := by
    obtain ⟨fd, hf⟩ := c.def_ 41 rfl rfl
    exact ⟨_, fd, He.meth_ok (at_f c 14), hf⟩
  abs := by
    obtain ⟨fd, hf⟩ := c.def_ 42 rfl rfl
    exact ⟨_, fd, He.meth_ok (at_f c 15), hf⟩
  bnd := by
    obtain ⟨fd, hf⟩ := c.def_ 43 rfl rfl
    exact ⟨_, fd, He.meth_ok (at_f c 16), hf⟩
  odd := by
    obtain ⟨fd, hf⟩ := c.def_ 44 rfl rfl
    exact ⟨_, fd, He.meth_ok (at_f c 17), hf⟩
theorem at_exc (X : K.In h) (G : h.Ns mainGlobals mg) (c : SaysY fa fs exb K) : ExC (WW w K mg base) "Mismatch" (He.ga K "Mismatch") "fault" ∧ ExC (WW w K mg base) "NotARoom" (He.ga K "NotARoom") "room" := by
  constructor
  · have e := (c.fn 45 (d := dS "Mismatch" "Mismatch.__init__" 5 0) rfl).1
    obtain ⟨⟨fd, hs, hn⟩, h1, h2⟩ := supB_ok (mg := mg) (at_more c 9) (at_free X G c (x := "super") (by decide)) e
    have ho : OexC K (He.ga K "Mismatch") := oexB_ok (at_more c 5)
    have ha := He.noat_ok (at_f c 22)
    exact ⟨at_glo X G c (by decide), ho, ⟨_, fd, h1, h2, fn_sup hs ho ha rfl (NdefX.nscope_by (by decide +kernel)) rfl rfl rfl (by decide) (by decide) (fun _ => rfl) (fun env h => ⟨_, rfl⟩) (fun _ => rfl), hs.binds hn fun _ _ _ _ _ _ _ us hl => match us, hl with | [_, _], _ => rfl⟩, xfB_ok (at_more c 7), ha⟩
  · have e := (c.fn 46 (d := dS "NotARoom" "NotARoom.__init__" 6 0) rfl).1
    obtain ⟨⟨fd, hs, hn⟩, h1, h2⟩ := supB_ok (mg := mg) (at_more c 10) (at_free X G c (x := "super") (by decide)) e
    have ho : OexC K (He.ga K "NotARoom") := oexB_ok (at_more c 6)
    have ha := He.noat_ok (at_f c 21)
    exact ⟨at_glo X G c (by decide), ho, ⟨_, fd, h1, h2, fn_sup hs ho ha rfl (NdefX.nscope_by (by decide +kernel)) rfl rfl rfl (by decide) (by decide) (fun _ => rfl) (fun env h => ⟨_, rfl⟩) (fun _ => rfl), hs.binds hn fun _ _ _ _ _ _ _ us hl => match us, hl with | [_, _], _ => rfl⟩, xfB_ok (at_more c 8), ha⟩
/-- all that the law calls -/
theorem at_law (X : K.In h) (G : h.Ns mainGlobals mg) (c : SaysY fa fs exb K) : LawC (WW w K mg base) (He.ga K "Book") := by
  have T : Bi (WW w K mg base) := at_bi X G c
  have M : Nums (WW w K mg base) := at_nums X G c
  have B : BkF (WW w K mg base) (He.ga K "Book") := at_book X G c
  have Ch : ChF (WW w K mg base) (He.ga K "Chain") := at_chain X G c
  obtain ⟨EM, EN⟩ := at_exc (w := w) (base := base) X G c
  have D := fun (n : Nat) (x : Str) (i : Nat) (e : fs[n]? = some (dG x i)) (hx : x ∈ gl) => at_def (w := w) (base := base) X G c n e hx
  have faces := ok_faces T (D 0 "faces" 9 rfl (by decide))
  have without := ok_without T (D 1 "without" 10 rfl (by decide))
  have exchanged := ok_exchanged T (D 2 "exchanged" 11 rfl (by decide))
  have subsets := ok_subsets T (D 3 "subsets" 13 rfl (by decide)) 4
  have sign := ok_sign T (D 4 "order_sign" 14 rfl (by decide))
  have fault := ok_roomfault T (D 5 "room_fault" 16 rfl (by decide))
  have counts := ok_counts T faces (D 6 "face_counts" 19 rfl (by decide))
  have check := ok_check T M (D 7 "check_orders" 25 rfl (by decide))
  have full := ok_full T check (D 8 "full_orders" 26 rfl (by decide))
  have own := ok_own T check (D 9 "own_places" 27 rfl (by decide))
  have first := ok_first T (D 10 "first_of" 28 rfl (by decide))
  have above := ok_above T first (D 11 "places_above" 29 rfl (by decide))
  have all := ok_all T above (D 12 "above_in_all" 30 rfl (by decide))
  have least := ok_least T first full (D 13 "least_row" 31 rfl (by decide))
  have ub := ok_ub T check full subsets all (D 14 "unbeaten_rooms" 32 rfl (by decide))
  have book := ok_book T B fault
  have beq := ok_beq T B
  have bodd := ok_bodd T B counts
  have beven := ok_beven T B bodd
  have btwo := ok_btwo T B counts
  have chain := ok_chain T B Ch fault sign
  have clen := ok_clen T Ch
  have cabs := ok_cabs T Ch
  have cbnd := ok_cbnd T Ch chain faces
  have codd := ok_codd T Ch book
  have signed := ok_signed T Ch clen cabs cbnd (D 18 "is_signed" 37 rfl (by decide))
  have ubook := ok_ubook T check ub own book (D 15 "unbeaten_book" 33 rfl (by decide))
  have uchain := ok_uchain T check ub own least chain (D 16 "unbeaten_chain" 34 rfl (by decide))
  have other := ok_other T EN EM check full own all first fault without exchanged (D 17 "other_unbeaten" 35 rfl (by decide))
  have cell := ok_cell T (D 19 "_law_cell" 39 rfl (by decide))
  have same := fun n => ok_same T (D 20 "_law_same" 40 rfl (by decide)) n
  have order := ok_order T (D 21 "_law_order" 41 rfl (by decide))
  have rooms := ok_lawrooms T (D 22 "_law_rooms" 42 rfl (by decide)) 4
  have table := ok_table T (D 23 "_law_table" 43 rfl (by decide))
  have lsign := ok_lawsign T (D 24 "_law_sign" 44 rfl (by decide))
  have orders := ok_orders T cell order (D 25 "_law_orders" 45 rfl (by decide))
  have lfull := ok_lfull T (D 26 "_law_full" 46 rfl (by decide))
  have lleast := ok_lleast T (D 27 "_law_least_row" 47 rfl (by decide))
  have lub := ok_lub T rooms lleast (D 28 "_law_unbeaten" 48 rfl (by decide))
  have terms := ok_terms T lleast lsign (D 29 "_law_terms" 49 rfl (by decide))
  have refused := ok_refused EN EM (He.exm_ok (at_f c 18)) (He.exm_ok (at_f c 19)) (He.exm_ok (at_f c 20)) other (D 30 "_law_refused" 50 rfl (by decide))
  have facesr := ok_facesr T table (same 1) other (D 31 "_law_faces_right" 51 rfl (by decide))
  have bookr := ok_bookr T B Ch (same 4) ubook uchain btwo beven signed clen cbnd codd beq (D 32 "_law_book_right" 52 rfl (by decide))
  have refr := ok_refr T cell (same 2) refused rooms (D 33 "_law_refusals_right" 53 rfl (by decide))
  exact ⟨cell, orders, lfull, lub, full, same 2, bookr, terms, facesr, refr, order, ubook⟩
/-- the law's own run -/
theorem law_run {fA : Addr} {fd : FuncData} (X : K.In h) (G : h.Ns mainGlobals mg) (c : SaysY fa fs exb K) (Fd : FunD K "law" "law" (defArgs (top 54)) (defBody (top 54)) (defScope (top 54)) [] [] fA fd) {s : Shared} {H : Hp} {a : Addr} {o : PySem.Obj} {ns : List Int} (hl : ns.length ≤ 63)
    (hH : H a = some (.frz o (.lst (ns.map V.int)))) (here : Env0 R.prog w K mg base callerA [] s H) : codeAny (model R.prog w) callerA (.call (.ref fA) ⟨[.ref a], []⟩) (CR CX0 [] R.prog w H s (fun v _ => v = .bl true) fun _ _ _ => False) s := by
  refine run_at (us := [.ref a]) (vs := [.ref a]) Fd sc_law rfl (by decide) here (Fd.bindsA (ps := ["script"]) (fun _ _ _ _ _ _ us hl => match us, hl with | [_], _ => rfl) s [.ref a] rfl) rfl (.cons rfl .nil) fun cdv => ?_
  have hF : Fam (WW w K mg base) 8 lawN (lawF (WW w K mg base) fA cdv s H fun _ _ _ => False) := ⟨fun _ => rfl, fun _ => rfl, fun _ => rfl, fun _ => rfl, fun _ => rfl, fun _ => rfl, fun _ => rfl, fun _ => (show Room 9 callerA from ⟨rfl, by decide, by decide⟩).deeper _, sc_law.nd, fun _ => PassesOwn.never⟩
  obtain ⟨out, hs, ho⟩ := law_head (at_bi X G c) (at_book X G c) (at_law X G c) hF ns
  refine ⟨wSs (lawF (WW w K mg base) fA cdv s H fun _ _ _ => False) (defBody (top 54)), (pss_w (F := lawF (WW w K mg base) fA cdv s H fun _ _ _ => False) ()).nox, hs H H H H _ (Nx.refl (Ex.refl H)) (env_start (Ex.refl H) (.cons (.sq (t := false) (.inr ⟨o, hH⟩) (dta_of_ints ns)) .nil)) _ ?_⟩
  cases ho with
  | rt => exact fun v G' H' n _ p => by cases p; rfl
end
end K84
open PySem PySem.W PySem.Calls PyProof.Rows
theorem PySem.Challenge.cw_oppositesmeet_k84_unbeaten_books_and_the_holds : PySem.Challenge.rw_oppositesmeet_k84_unbeaten_books_and_the.Holds := by
  w_on; o_law
  refine HandSHeadRun.head_any (r := OpenLaw.row PySem.Challenge.rw_oppositesmeet_k84_unbeaten_books_and_the) (q := view (OpenLaw.row PySem.Challenge.rw_oppositesmeet_k84_unbeaten_books_and_the).prog [54]) (H := K84.hk) (ob := K84.ob) (M := 6000) (loose := K84.loose1 ++ K84.loose2)
    (d := HandSHeadRun.topDef (OpenLaw.row PySem.Challenge.rw_oppositesmeet_k84_unbeaten_books_and_the).prog 54) (kwd := []) K84.ob_eq (by kernel_rfl) (fun s => by kernel_rfl) K84.run (by kernel_rfl) (by kernel_rfl) (by kernel_rfl) (by rfl) (by first | assumption | decide +kernel) (by decide +kernel) ⟨rfl, rfl, rfl, rfl, rfl, by decide +kernel⟩ ?hw ?hc
  case hw => w_witness2
  case hc =>
    refine FX.law_at (l := PySem.Challenge.rw_oppositesmeet_k84_unbeaten_books_and_the) (n := 63) rfl (by decide) (by kernel_rfl) fun w mg fA h Y G hmg0 => ?_
    obtain ⟨K, KX, c⟩ := Y
    have hmg : mg ("law" : PySem.Str) = some (.ref fA) := by
      have e : (HandSHeadRun.topDef (OpenLaw.row PySem.Challenge.rw_oppositesmeet_k84_unbeaten_books_and_the).prog 54).name = ("law" : PySem.Str) := by kernel_rfl
      rw [← e]
      exact hmg0
    obtain ⟨fd, Fd⟩ := c.def_ 34 (d := K84.dG "law" 54) rfl rfl
    have e := hmg.symm.trans (K84.at_glo KX G c (x := "law") (by decide))
    cases e
    exact ⟨K, KX, c.nol, fun base s H a o ns hl hH here => K84.law_run KX G c Fd hl hH here⟩
