import PyProof.Rows.All
import Wide.All
import OpenK.AllK
import Wide.FinOn
import HandS.ForMost
import HandS.ForExc
import HandS.IsInst
import HandS.Defaults
import HandS.Style
import HandS.SortInts
import HandS.Conv
import HandS.Wide
import HandS.NoneIn
import HandS.OwnEq
import HandS.Zip
import HandS.FStr
import HandS.ExcOwn
import HandS.ExcIs
import HandS.WordsExc
import HandS.TupAny
import HandS.ExcInit
import HandS.HotCalls
import KE.KExcInit
import KE.KExcLine
import KE.KExcIs
import HandS.SetFor
import HandS.Strs
import HandS.SortKw
import KE.KSortKeyAny
import HandS.Text
import HandS.MakeKw
import KE.KCallOwn
import HandS.Comp
import HandS.RaiseFrom
import HandS.SuiteRaise
import HandS.Deep
import KE.SortData
import PySem.Challenge.RW_slicechain_k43_whole_parted_places
set_option Elab.async false
set_option linter.all false
set_option maxRecDepth 100000
set_option maxHeartbeats 0
/-! Gd: a calculus over the hand layer in which a state is data (what the slots read as) and a few cells that may change. -/
namespace Gd
open PySem PySem.Spec PyProof.Rows L2

inductive D where
  | non | bl (b : Bool) | int (i : Int) | str (x : Str) | tup (ds : List D) | lst (ds : List D) | ref (a : Addr) | ty (n : String) | scr (K : PySem.W.Frag) (ns : List Int) | dct | obj (C : Addr) (ns : List Str) (ds : List D) | exc (c : Value) | excF (c : Value) (ns : List Str) (ds : List D)

/-- an exception that was caught, at a: its class, its own dict -/
def EkO (cls : Value) (d : Option Addr) (a : Addr) : HO := .ext fun h => ∃ (oe : Obj) (vs : Array Value), h.get? a = some oe ∧ Zc cls d oe ∧ oe.data = .fields vs
theorem ekO_ok {P : Program} {w : World} {H : Hp} {h : Heap} {a : Addr} {cls : Value} {d : Option Addr} {oe : Obj} {vs : Array Value} (e : h.get? a = some oe) (z : Zc cls d oe) (f : oe.data = .fields vs) : ObjOk P w H h a (EkO cls d a) :=
  ⟨⟨oe, vs, e, z, f⟩, ⟨oe, e⟩, fun _ _ ⟨o, v, q, r⟩ k => ⟨o, v, k o q, r⟩⟩
/-- the script: frozen, or of the written part -/
def ScrAt (K : PySem.W.Frag) (H : Hp) (a : Addr) (ns : List Int) : Prop := (∃ o, H a = some (.frz o (.lst (ns.map V.int)))) ∨ SqL K (fun _ => none) a (ns.map V.int)
theorem ScrAt.sq {K : PySem.W.Frag} {H : Hp} {a : Addr} {ns : List Int} (h : ScrAt K H a ns) : SqL K H a (ns.map V.int) := by
  rcases h with ⟨o, h⟩ | (h | ⟨o, h⟩) | h
  · exact .inl (.inr ⟨o, h⟩)
  · cases h
  · cases h
  · exact .inr h

mutual
inductive Rep (ok : Addr → Prop) (H : Hp) : D → V → Prop
  | non : Rep ok H .non .non
  | bl (b : Bool) : Rep ok H (.bl b) (.bl b)
  | int (i : Int) : Rep ok H (.int i) (.int i)
  | str (x : Str) : Rep ok H (.str x) (.str x)
  | ref (a : Addr) : Rep ok H (.ref a) (.ref a)
  | ty (n : String) : Rep ok H (.ty n) (.ty n)
  | tup {a : Addr} {xs : List V} {ds : List D} : H a = some (.tup xs) → Reps ok H ds xs → Rep ok H (.tup ds) (.ref a)
  | lst {a : Addr} {xs : List V} {ds : List D} : ok a → H a = some (.lst xs) → Reps ok H ds xs → Rep ok H (.lst ds) (.ref a)
  | scr {K : PySem.W.Frag} {a : Addr} {ns : List Int} : ScrAt K H a ns → Rep ok H (.scr K ns) (.ref a)
  | dct {a : Addr} : ok a → H a = some (.dK []) → Rep ok H .dct (.ref a)
  | obj {a dx C : Addr} {ns : List Str} {xs : List V} {ds : List D} : ok a → H a = some (.ins C dx (ns.zip xs)) → ns.length = ds.length → Reps ok H ds xs → Rep ok H (.obj C ns ds) (.ref a)
  | exc {a : Addr} {c : Value} : ok a → H a = some (EkO c none a) → Rep ok H (.exc c) (.ref a)
  | excF {a dx : Addr} {c : Value} {ns : List Str} {xs : List V} {ds : List D} : ok a → H a = some (EkO c (some dx) a) → ok dx → H dx = some (.xd (ns.zip xs)) → ns.length = ds.length → Reps ok H ds xs → Rep ok H (.excF c ns ds) (.ref a)
inductive Reps (ok : Addr → Prop) (H : Hp) : List D → List V → Prop
  | nil : Reps ok H [] []
  | cons {d : D} {v : V} {ds : List D} {vs : List V} : Rep ok H d v → Reps ok H ds vs → Reps ok H (d :: ds) (v :: vs)
end

mutual
theorem Rep.mono {ok ok' : Addr → Prop} {H H' : Hp} (h1 : (∀ a xs, H a = some (.tup xs) → H' a = some (.tup xs)) ∧ ∀ a o u, H a = some (.frz o u) → H' a = some (.frz o u)) (h2 : ∀ a u, ok a → H a = some u → ok' a ∧ H' a = some u) : ∀ {d : D} {v : V}, Rep ok H d v → Rep ok' H' d v
  | _, _, .non => .non
  | _, _, .bl b => .bl b
  | _, _, .int i => .int i
  | _, _, .str x => .str x
  | _, _, .ref a => .ref a
  | _, _, .ty n => .ty n
  | _, _, .tup e r => .tup (h1.1 _ _ e) (Reps.mono h1 h2 r)
  | _, _, .scr (.inl ⟨o, e⟩) => .scr (.inl ⟨o, h1.2 _ _ _ e⟩)
  | _, _, .scr (.inr e) => .scr (.inr e)
  | _, _, .dct o e => .dct (h2 _ _ o e).1 (h2 _ _ o e).2
  | _, _, .obj o e l r => .obj (h2 _ _ o e).1 (h2 _ _ o e).2 l (Reps.mono h1 h2 r)
  | _, _, .lst o e r => .lst (h2 _ _ o e).1 (h2 _ _ o e).2 (Reps.mono h1 h2 r)
  | _, _, .exc o e => .exc (h2 _ _ o e).1 (h2 _ _ o e).2
  | _, _, .excF o e o' e' l r => .excF (h2 _ _ o e).1 (h2 _ _ o e).2 (h2 _ _ o' e').1 (h2 _ _ o' e').2 l (Reps.mono h1 h2 r)
theorem Reps.mono {ok ok' : Addr → Prop} {H H' : Hp} (h1 : (∀ a xs, H a = some (.tup xs) → H' a = some (.tup xs)) ∧ ∀ a o u, H a = some (.frz o u) → H' a = some (.frz o u)) (h2 : ∀ a u, ok a → H a = some u → ok' a ∧ H' a = some u) : ∀ {ds : List D} {vs : List V}, Reps ok H ds vs → Reps ok' H' ds vs
  | _, _, .nil => .nil
  | _, _, .cons r t => .cons (Rep.mono h1 h2 r) (Reps.mono h1 h2 t)
end

section
variable {ok : Addr → Prop} {H : Hp}
theorem Rep.non_inv {v : V} (r : Rep ok H .non v) : v = .non := by cases r; rfl
theorem Rep.bl_inv {v : V} {b : Bool} (r : Rep ok H (.bl b) v) : v = .bl b := by cases r; rfl
theorem Rep.int_inv {v : V} {i : Int} (r : Rep ok H (.int i) v) : v = .int i := by cases r; rfl
theorem Rep.str_inv {v : V} {i : Str} (r : Rep ok H (.str i) v) : v = .str i := by cases r; rfl
theorem Rep.ref_inv {v : V} {a : Addr} (r : Rep ok H (.ref a) v) : v = .ref a := by cases r; rfl
theorem Rep.ty_inv {v : V} {n : String} (r : Rep ok H (.ty n) v) : v = .ty n := by cases r; rfl
theorem Rep.tup_inv {v : V} {ds : List D} (r : Rep ok H (.tup ds) v) : ∃ a xs, v = .ref a ∧ H a = some (.tup xs) ∧ Reps ok H ds xs := by
  cases r with | tup e r => exact ⟨_, _, rfl, e, r⟩
theorem Rep.lst_inv {v : V} {ds : List D} (r : Rep ok H (.lst ds) v) : ∃ a xs, v = .ref a ∧ ok a ∧ H a = some (.lst xs) ∧ Reps ok H ds xs := by
  cases r with | lst o e r => exact ⟨_, _, rfl, o, e, r⟩
theorem Rep.obj_inv {v : V} {C : Addr} {ns : List Str} {ds : List D} (r : Rep ok H (.obj C ns ds) v) : ∃ a dx xs, v = .ref a ∧ ok a ∧ H a = some (.ins C dx (ns.zip xs)) ∧ ns.length = ds.length ∧ Reps ok H ds xs := by
  cases r with | obj o e l r => exact ⟨_, _, _, rfl, o, e, l, r⟩
theorem Rep.exc_inv {v : V} {c : Value} (r : Rep ok H (.exc c) v) : ∃ a, v = .ref a ∧ ok a ∧ H a = some (EkO c none a) := by
  cases r with | exc o e => exact ⟨_, rfl, o, e⟩
theorem Rep.excF_inv {v : V} {c : Value} {ns : List Str} {ds : List D} (r : Rep ok H (.excF c ns ds) v) : ∃ a dx xs, v = .ref a ∧ ok a ∧ H a = some (EkO c (some dx) a) ∧ ok dx ∧ H dx = some (.xd (ns.zip xs)) ∧ ns.length = ds.length ∧ Reps ok H ds xs := by
  cases r with | excF o e o' e' l r => exact ⟨_, _, _, rfl, o, e, o', e', l, r⟩
theorem Reps.length : ∀ {ds : List D} {vs : List V}, Reps ok H ds vs → ds.length = vs.length
  | _, _, .nil => rfl
  | _, _, .cons _ t => congrArg Nat.succ (Reps.length t)
theorem Reps.get : ∀ {ds : List D} {vs : List V} {i : Nat} {d : D}, Reps ok H ds vs → ds[i]? = some d → ∃ v, vs[i]? = some v ∧ Rep ok H d v
  | _, _, _, _, .nil, e => by simp at e
  | _, _, 0, _, .cons r _, e => by simp at e; subst e; exact ⟨_, rfl, r⟩
  | _, _, i + 1, d, .cons _ t, e => by
    obtain ⟨u, h1, h2⟩ := Reps.get (i := i) (d := d) t (by simpa using e)
    exact ⟨u, by simpa using h1, h2⟩
theorem Reps.get' : ∀ {ds : List D} {vs : List V} {i : Nat} {v : V}, Reps ok H ds vs → vs[i]? = some v → ∃ d, ds[i]? = some d ∧ Rep ok H d v
  | _, _, _, _, .nil, e => by simp at e
  | _, _, 0, _, .cons r _, e => by simp at e; subst e; exact ⟨_, rfl, r⟩
  | _, _, i + 1, d, .cons _ t, e => by
    obtain ⟨u, h1, h2⟩ := Reps.get' (i := i) (v := d) t (by simpa using e)
    exact ⟨u, by simpa using h1, h2⟩
theorem Reps.append : ∀ {ds es : List D} {vs ws : List V}, Reps ok H ds vs → Reps ok H es ws → Reps ok H (ds ++ es) (vs ++ ws)
  | _, _, _, _, .nil, s => s
  | _, _, _, _, .cons r t, s => .cons r (Reps.append t s)
theorem Reps.take : ∀ {ds : List D} {vs : List V} (n : Nat), Reps ok H ds vs → Reps ok H (ds.take n) (vs.take n)
  | _, _, 0, _ => .nil
  | _, _, _ + 1, .nil => .nil
  | _, _, n + 1, .cons r t => .cons r (Reps.take n t)
theorem Reps.drop : ∀ {ds : List D} {vs : List V} (n : Nat), Reps ok H ds vs → Reps ok H (ds.drop n) (vs.drop n)
  | _, _, 0, r => r
  | _, _, _ + 1, .nil => .nil
  | _, _, n + 1, .cons _ t => Reps.drop n t
theorem Reps.set {d : D} {v : V} (r : Rep ok H d v) : ∀ {ds : List D} {vs : List V} (i : Nat), Reps ok H ds vs → Reps ok H (ds.set i d) (vs.set i v)
  | _, _, _, .nil => .nil
  | _, _, 0, .cons _ t => .cons r t
  | _, _, i + 1, .cons q t => .cons q (Reps.set r i t)
theorem Reps.ints : ∀ (ns : List Int), Reps ok H (ns.map D.int) (ns.map V.int)
  | [] => .nil
  | n :: ns => .cons (.int n) (Reps.ints ns)
theorem Reps.ints_inv : ∀ {ns : List Int} {vs : List V}, Reps ok H (ns.map D.int) vs → vs = ns.map V.int
  | [], _, .nil => rfl
  | n :: ns, _, .cons r t => by
    rw [r.int_inv, Reps.ints_inv t]
    rfl
theorem Reps.bls_inv : ∀ {ns : List Bool} {vs : List V}, Reps ok H (ns.map D.bl) vs → vs = ns.map V.bl
  | [], _, .nil => rfl
  | n :: ns, _, .cons r t => by
    rw [r.bl_inv, Reps.bls_inv t]
    rfl
theorem Reps.snoc {ds : List D} {vs : List V} {d : D} {v : V} (h : Reps ok H ds vs) (r : Rep ok H d v) : Reps ok H (ds ++ [d]) (vs ++ [v]) := h.append (.cons r .nil)
end

/-! ### the cells that may change -/
inductive MO where
  | lst (ds : List D) | ins (C : Addr) (fs : List (Str × D)) | dT (kvs : List (List Key × D))
abbrev M := List (Addr × MO)
def dom (m : M) : List Addr := m.map (·.1)
abbrev off (m : M) : Addr → Prop := fun a => a ∉ dom m
def MRep (ok : Addr → Prop) (H : Hp) (a : Addr) : MO → Prop
  | .lst ds => ∃ xs, H a = some (.lst xs) ∧ Reps ok H ds xs
  | .ins C fs => ∃ dx fs', H a = some (.ins C dx fs') ∧ Paired (fun (p : Str × D) (q : Str × V) => p.1 = q.1 ∧ Rep ok H p.2 q.2) fs fs'
  | .dT kvs => ∃ kvs', H a = some (.dT kvs') ∧ Paired (fun (p : List Key × D) (q : List Key × V) => p.1 = q.1 ∧ Rep ok H p.2 q.2) kvs kvs'
structure MSat (m : M) (H : Hp) : Prop where
  nd : (dom m).Nodup
  all : ∀ p ∈ m, MRep (off m) H p.1 p.2
theorem MSat.get {m : M} {H : Hp} (s : MSat m H) {j : Nat} {a : Addr} {o : MO} (h : m[j]? = some (a, o)) : MRep (off m) H a o := s.all (a, o) (List.mem_of_getElem? h)
theorem MRep.notup {ok : Addr → Prop} {H : Hp} {a : Addr} {o : MO} {xs : List V} (h : MRep ok H a o) (e : H a = some (.tup xs)) : False := by
  cases o with
  | lst ds => obtain ⟨_, q, _⟩ := h; rw [e] at q; cases q
  | ins C fs => obtain ⟨_, _, q, _⟩ := h; rw [e] at q; cases q
  | dT kvs => obtain ⟨_, q, _⟩ := h; rw [e] at q; cases q
theorem MRep.nofrz {ok : Addr → Prop} {H : Hp} {a : Addr} {o : MO} {b : Obj} {u : HO} (h : MRep ok H a o) (e : H a = some (.frz b u)) : False := by
  cases o with
  | lst ds => obtain ⟨_, q, _⟩ := h; rw [e] at q; cases q
  | ins C fs => obtain ⟨_, _, q, _⟩ := h; rw [e] at q; cases q
  | dT kvs => obtain ⟨_, q, _⟩ := h; rw [e] at q; cases q
theorem mem_dom {m : M} {a : Addr} (h : a ∈ dom m) : ∃ o, (a, o) ∈ m := by
  obtain ⟨p, hp, e⟩ := List.mem_map.mp h
  exact ⟨p.2, by rw [← e]; exact hp⟩
theorem dom_of {m : M} {j : Nat} {a : Addr} {o : MO} (h : m[j]? = some (a, o)) : a ∈ dom m := List.mem_map.mpr ⟨(a, o), List.mem_of_getElem? h, rfl⟩
theorem MSat.notup {m : M} {H : Hp} (s : MSat m H) {a : Addr} {xs : List V} (e : H a = some (.tup xs)) : a ∉ dom m := fun hm => by
  obtain ⟨o, ho⟩ := mem_dom hm
  exact (s.all _ ho).notup e
theorem MSat.nofrz {m : M} {H : Hp} (s : MSat m H) {a : Addr} {o : Obj} {u : HO} (e : H a = some (.frz o u)) : a ∉ dom m := fun hm => by
  obtain ⟨o, ho⟩ := mem_dom hm
  exact (s.all _ ho).nofrz e
theorem MRep.there {ok : Addr → Prop} {H : Hp} {a : Addr} {o : MO} (h : MRep ok H a o) : ∃ u, H a = some u := by
  cases o with
  | lst ds => obtain ⟨_, q, _⟩ := h; exact ⟨_, q⟩
  | ins C fs => obtain ⟨_, _, q, _⟩ := h; exact ⟨_, q⟩
  | dT kvs => obtain ⟨_, q, _⟩ := h; exact ⟨_, q⟩
theorem MSat.there {m : M} {H : Hp} (s : MSat m H) {a : Addr} (h : a ∈ dom m) : ∃ u, H a = some u := by
  obtain ⟨o, ho⟩ := mem_dom h
  exact (s.all _ ho).there
theorem dom_set {m : M} {j : Nat} {a : Addr} {o o' : MO} (h : m[j]? = some (a, o)) : dom (m.set j (a, o')) = dom m := by
  unfold dom
  rw [List.map_set]
  apply List.ext_getElem?
  intro i
  rw [List.getElem?_set]
  split
  · rename_i e
    subst e
    split
    · rw [List.getElem?_map, h]; rfl
    · rename_i hl
      rw [List.length_map] at hl
      rw [List.getElem?_map, List.getElem?_eq_none (by omega)]
      rfl
  · rfl
theorem paired_mono {ok ok' : Addr → Prop} {H H' : Hp} {fs : List (Str × D)} {fs' : List (Str × V)} (h1 : (∀ a xs, H a = some (.tup xs) → H' a = some (.tup xs)) ∧ ∀ a o u, H a = some (.frz o u) → H' a = some (.frz o u)) (h2 : ∀ a u, ok a → H a = some u → ok' a ∧ H' a = some u)
    (h : Paired (fun (p : Str × D) (q : Str × V) => p.1 = q.1 ∧ Rep ok H p.2 q.2) fs fs') : Paired (fun (p : Str × D) (q : Str × V) => p.1 = q.1 ∧ Rep ok' H' p.2 q.2) fs fs' :=
  Paired.mapP h fun _ _ z => ⟨z.1, z.2.mono h1 h2⟩
theorem MRep.mono {ok ok' : Addr → Prop} {H H' : Hp} {a : Addr} {o : MO} (h1 : (∀ a xs, H a = some (.tup xs) → H' a = some (.tup xs)) ∧ ∀ a o u, H a = some (.frz o u) → H' a = some (.frz o u)) (h2 : ∀ a u, ok a → H a = some u → ok' a ∧ H' a = some u) (e : H' a = H a) (h : MRep ok H a o) : MRep ok' H' a o := by
  cases o with
  | lst ds => obtain ⟨xs, q, r⟩ := h; exact ⟨xs, e.trans q, r.mono h1 h2⟩
  | ins C fs => obtain ⟨dx, fs', q, r⟩ := h; exact ⟨dx, fs', e.trans q, paired_mono h1 h2 r⟩
  | dT kvs => obtain ⟨kvs', q, r⟩ := h; exact ⟨kvs', e.trans q, Paired.mapP r fun _ _ z => ⟨z.1, z.2.mono h1 h2⟩⟩

/-! ### from state to state -/
structure Step (m : M) (H : Hp) (m' : M) (H' : Hp) : Prop where
  tups : (∀ a xs, H a = some (.tup xs) → H' a = some (.tup xs)) ∧ ∀ a o u, H a = some (.frz o u) → H' a = some (.frz o u)
  keep : ∀ a o, H a = some o → a ∉ dom m → H' a = some o
  new : ∀ a ∈ dom m', a ∈ dom m ∨ H a = none
theorem Step.refl {m : M} {H : Hp} : Step m H m H := ⟨⟨fun _ _ h => h, fun _ _ _ h => h⟩, fun _ _ h _ => h, fun _ h => .inl h⟩
theorem Step.trans {m m1 m2 : M} {H H1 H2 : Hp} (a : Step m H m1 H1) (b : Step m1 H1 m2 H2) : Step m H m2 H2 where
  tups := ⟨fun c xs h => b.tups.1 c xs (a.tups.1 c xs h), fun c o u h => b.tups.2 c o u (a.tups.2 c o u h)⟩
  keep := fun c o h n => b.keep c o (a.keep c o h n) fun z => (a.new c z).elim n fun e => by rw [e] at h; cases h
  new := fun c hc => by
    rcases b.new c hc with z | z
    · exact a.new c z
    · by_cases n : c ∈ dom m
      · exact .inl n
      · cases q : H c with
        | none => exact .inr rfl
        | some o => rw [a.keep c o q n] at z; cases z
theorem Step.h2 {m m' : M} {H H' : Hp} (s : Step m H m' H') : ∀ a u, off m a → H a = some u → off m' a ∧ H' a = some u := fun a u n h =>
  ⟨fun z => (s.new a z).elim n (fun e => by rw [e] at h; cases h), s.keep a _ h n⟩
theorem Rep.step {m m' : M} {H H' : Hp} {d : D} {v : V} (r : Rep (off m) H d v) (s : Step m H m' H') : Rep (off m') H' d v := r.mono s.tups s.h2
theorem Reps.step {m m' : M} {H H' : Hp} {d : List D} {v : List V} (r : Reps (off m) H d v) (s : Step m H m' H') : Reps (off m') H' d v := r.mono s.tups s.h2
/-- a new thing, not a cell -/
theorem Step.fresh {m : M} {H : Hp} {p : Addr} {o : HO} (np : H p = none) : Step m H m (upd H p o) :=
  ⟨⟨fun a xs h => by rw [upd_ne (ne_of_none h np)]; exact h, fun a o u h => by rw [upd_ne (ne_of_none h np)]; exact h⟩, fun a u h _ => by rw [upd_ne (ne_of_none h np)]; exact h, fun _ h => .inl h⟩
theorem MSat.step {m : M} {H H' : Hp} (s : MSat m H) (st : Step m H m H') (k : ∀ a ∈ dom m, H' a = H a) : MSat m H' :=
  ⟨s.nd, fun p hp => (s.all p hp).mono st.tups st.h2 (k _ (List.mem_map.mpr ⟨p, hp, rfl⟩))⟩
theorem MSat.fresh {m : M} {H : Hp} {p : Addr} {o : HO} (s : MSat m H) (np : H p = none) : MSat m (upd H p o) :=
  s.step (Step.fresh np) fun a ha => by
    obtain ⟨u, e⟩ := s.there ha
    rw [upd_ne (ne_of_none e np)]
theorem MSat.off_new {m : M} {H : Hp} {p : Addr} (s : MSat m H) (np : H p = none) : off m p := fun z => by
  obtain ⟨u, e⟩ := s.there z
  rw [np] at e; cases e
/-- a cell is laid -/
theorem Step.cell {m : M} {H : Hp} {p : Addr} {o : HO} {c : MO} (np : H p = none) : Step m H ((p, c) :: m) (upd H p o) :=
  ⟨(Step.fresh (m := m) np).tups, (Step.fresh (m := m) np).keep, fun a ha => by
    rcases List.mem_cons.mp (show a ∈ p :: dom m from ha) with e | h
    · exact .inr (e ▸ np)
    · exact .inl h⟩
theorem MSat.cell {m : M} {H : Hp} {p : Addr} {xs : List V} {ds : List D} (s : MSat m H) (np : H p = none) (r : Reps (off m) H ds xs) : MSat ((p, .lst ds) :: m) (upd H p (.lst xs)) := by
  have st : Step m H ((p, .lst ds) :: m) (upd H p (.lst xs)) := Step.cell np
  refine ⟨List.nodup_cons.mpr ⟨s.off_new np, s.nd⟩, fun q hq => ?_⟩
  rcases List.mem_cons.mp hq with e | h
  · subst e
    exact ⟨xs, upd_same, r.step st⟩
  · obtain ⟨u, e⟩ := (s.all q h).there
    exact (s.all q h).mono st.tups st.h2 (upd_ne (ne_of_none e np))
/-- a cell is written -/
theorem Step.write {m : M} {H : Hp} {j : Nat} {a : Addr} {o o' : MO} {u : HO} (s : MSat m H) (h : m[j]? = some (a, o)) : Step m H (m.set j (a, o')) (upd H a u) :=
  ⟨⟨fun b xs e => (upd_ne (fun (z : b = a) => s.notup e (by rw [z]; exact dom_of h))).trans e, fun b o u e => (upd_ne (fun (z : b = a) => s.nofrz e (by rw [z]; exact dom_of h))).trans e⟩, fun b x e n => (upd_ne (fun (z : b = a) => n (by rw [z]; exact dom_of h))).trans e, fun b hb => .inl (by rw [dom_set h] at hb; exact hb)⟩
theorem MSat.write {m : M} {H : Hp} {j : Nat} {a : Addr} {o o' : MO} {u : HO} (s : MSat m H) (h : m[j]? = some (a, o)) (new : MRep (off (m.set j (a, o'))) (upd H a u) a o') : MSat (m.set j (a, o')) (upd H a u) := by
  have st : Step m H (m.set j (a, o')) (upd H a u) := Step.write s h
  have hd : dom (m.set j (a, o')) = dom m := dom_set h
  refine ⟨hd ▸ s.nd, fun q hq => ?_⟩
  obtain ⟨i, hi, e⟩ := List.mem_iff_getElem.mp hq
  have hi' : i < m.length := by rw [List.length_set] at hi; exact hi
  by_cases hj : j = i
  · subst hj
    rw [List.getElem_set_self] at e
    subst e
    exact new
  · rw [List.getElem_set_ne hj] at e
    have hne : q.1 ≠ a := by
      intro z
      obtain ⟨hl, e2⟩ := List.getElem?_eq_some_iff.mp h
      have e3 : (dom m)[j]? = some a := by unfold dom; rw [List.getElem?_map, h]; rfl
      have e4 : (dom m)[i]? = some a := by unfold dom; rw [List.getElem?_map, List.getElem?_eq_getElem hi', e, ← z]; rfl
      exact hj (nd_ix s.nd e3 e4)
    have hm : q ∈ m := by rw [← e]; exact List.getElem_mem hi'
    exact (s.all q hm).mono st.tups st.h2 (upd_ne hne)
theorem MSat.writeL {m : M} {H : Hp} {j : Nat} {a : Addr} {o : MO} {ds : List D} {xs : List V} (s : MSat m H) (h : m[j]? = some (a, o)) (r : Reps (off m) H ds xs) : MSat (m.set j (a, .lst ds)) (upd H a (.lst xs)) :=
  s.write h ⟨xs, upd_same, r.step (Step.write s h)⟩
/-- cells are forgotten -/
theorem Step.drop1 {m : M} {H : Hp} {a : Addr} {o : MO} : Step ((a, o) :: m) H m H := ⟨⟨fun _ _ h => h, fun _ _ _ h => h⟩, fun _ _ h _ => h, fun b hb => .inl (List.mem_cons_of_mem _ hb)⟩
theorem MSat.drop1 {m : M} {H : Hp} {a : Addr} {o : MO} (s : MSat ((a, o) :: m) H) : MSat m H :=
  ⟨(List.nodup_cons.mp s.nd).2, fun p hp => (s.all p (List.mem_cons_of_mem _ hp)).mono ⟨fun _ _ h => h, fun _ _ _ h => h⟩ (fun b xs n h => ⟨fun z => n (List.mem_cons_of_mem _ z), h⟩) rfl⟩
/-- a cell's list becomes data -/
theorem Rep.freeze {m : M} {H : Hp} {a : Addr} {ds : List D} (s : MSat ((a, .lst ds) :: m) H) : Rep (off m) H (.lst ds) (.ref a) := by
  obtain ⟨xs, e, r⟩ := s.all _ List.mem_cons_self
  exact .lst (List.nodup_cons.mp s.nd).1 e (r.mono ⟨fun _ _ h => h, fun _ _ _ h => h⟩ fun b ys n h => ⟨fun z => n (List.mem_cons_of_mem _ z), h⟩)

/-! ### the slots -/
abbrev Dl := List (Option D)
/-- what is wished of an exception: over data, over the heap -/
abbrev XD := Value → Option (List (Str × D)) → M → Prop
structure Xc where
  X0 : XD
  Ex : XK
def XFs (ok : Addr → Prop) (H : Hp) : Option (List (Str × D)) → Option Addr → Prop
  | none, none => True
  | some fs, some a => ∃ fs', H a = some (.xd fs') ∧ Paired (fun (p : Str × D) (q : Str × V) => p.1 = q.1 ∧ Rep ok H p.2 q.2) fs fs'
  | _, _ => False
def XOk (x : Xc) (m : M) (H : Hp) : Prop := ∀ c fs m' H' od, Step m H m' H' → MSat m' H' → XFs (off m') H' fs od → x.X0 c fs m' → x.Ex c od H'
theorem XOk.step {x : Xc} {m m' : M} {H H' : Hp} (h : XOk x m H) (s : Step m H m' H') : XOk x m' H' := fun c fs m2 H2 od s2 => h c fs m2 H2 od (s.trans s2)
structure ESat (xc : Xc) (d : Dl) (m : M) (sg : L2.St) (H : Hp) : Prop where
  xk : XOk xc m H
  len : d.length = sg.length
  get : ∀ (i : Nat) x, d[i]? = some (some x) → ∃ v, sg[i]? = some (some v) ∧ Rep (off m) H x v
theorem ESat.step {xc : Xc} {d : Dl} {m m' : M} {sg : L2.St} {H H' : Hp} (e : ESat xc d m sg H) (s : Step m H m' H') : ESat xc d m' sg H' :=
  ⟨e.xk.step s, e.len, fun i x h => let ⟨v, q, r⟩ := e.get i x h; ⟨v, q, r.step s⟩⟩
theorem ESat.set {xc : Xc} {d : Dl} {m : M} {sg : L2.St} {H : Hp} {x : D} {v : V} (e : ESat xc d m sg H) (r : Rep (off m) H x v) (j : Nat) : ESat xc (d.set j (some x)) m (sg.set j (some v)) H := by
  refine ⟨e.xk, by rw [List.length_set, List.length_set]; exact e.len, fun i y h => ?_⟩
  by_cases hj : j = i
  · subst hj
    by_cases hl : j < d.length
    · rw [List.getElem?_set_self hl] at h
      cases h
      exact ⟨v, by rw [List.getElem?_set_self (e.len ▸ hl)], r⟩
    · rw [List.getElem?_eq_none (by rw [List.length_set]; omega)] at h
      cases h
  · rw [List.getElem?_set_ne hj] at h ⊢
    exact e.get i y h
theorem ESat.unset {xc : Xc} {d : Dl} {m : M} {sg : L2.St} {H : Hp} (e : ESat xc d m sg H) (j : Nat) : ESat xc (d.set j none) m (sg.set j none) H := by
  refine ⟨e.xk, by rw [List.length_set, List.length_set]; exact e.len, fun i y h => ?_⟩
  by_cases hj : j = i
  · subst hj
    by_cases hl : j < d.length
    · rw [List.getElem?_set_self hl] at h
      cases h
    · rw [List.getElem?_eq_none (by rw [List.length_set]; omega)] at h
      cases h
  · rw [List.getElem?_set_ne hj] at h ⊢
    exact e.get i y h
def wipeD (d : Dl) : List Nat → Dl
  | [] => d
  | v :: vs => (wipeD d vs).set v none
theorem ESat.wipe {xc : Xc} {d : Dl} {m : M} {sg : L2.St} {H : Hp} (e : ESat xc d m sg H) : ∀ vs : List Nat, ESat xc (wipeD d vs) m (L2.wipe sg vs) H
  | [] => e
  | v :: vs => (ESat.wipe e vs).unset v
/-- forgetting -/
theorem ESat.weak {xc : Xc} {d d' : Dl} {m : M} {sg : L2.St} {H : Hp} (e : ESat xc d m sg H) (hl : d'.length = d.length) (h : ∀ (i : Nat) x, d'[i]? = some (some x) → d[i]? = some (some x)) : ESat xc d' m sg H :=
  ⟨e.xk, hl.trans e.len, fun i x q => e.get i x (h i x q)⟩

/-! ### readings over data -/
def ge (xc : Xc) (t : TE) (d : Dl) (m : M) (Q : D → M → Prop) : Prop :=
  ∀ sg H, MSat m H → ESat xc d m sg H → ∀ Q' : VK, (∀ v H' x m', Step m H m' H' → Rep (off m') H' x v → MSat m' H' → Q x m' → Q' v H') → t sg H Q'
def gt (xc : Xc) (t : TT) (d : Dl) (m : M) (Q : Bool → M → Prop) : Prop :=
  ∀ sg H, MSat m H → ESat xc d m sg H → ∀ Q' : Bool → Hp → Prop, (∀ b H' m', Step m H m' H' → MSat m' H' → Q b m' → Q' b H') → t sg H Q'
def ga (xc : Xc) (t : TA) (d : Dl) (m : M) (Q : List D → M → Prop) : Prop :=
  ∀ sg H, MSat m H → ESat xc d m sg H → ∀ Q' : List V → Hp → Prop, (∀ vs H' xs m', Step m H m' H' → Reps (off m') H' xs vs → MSat m' H' → Q xs m' → Q' vs H') → t sg H Q'
structure De where
  nx : Dl → M → Prop
  rt : D → M → Prop
  bk : Dl → M → Prop := fun _ _ => False
  ct : Dl → M → Prop := fun _ _ => False
structure EOk (xc : Xc) (E : De) (E' : Ends) (m : M) (H : Hp) : Prop where
  nx : ∀ sg' H' d' m', Step m H m' H' → MSat m' H' → ESat xc d' m' sg' H' → E.nx d' m' → E'.nx sg' H'
  rt : ∀ v H' x m', Step m H m' H' → Rep (off m') H' x v → MSat m' H' → E.rt x m' → E'.rt v H'
  bk : ∀ sg' H' d' m', Step m H m' H' → MSat m' H' → ESat xc d' m' sg' H' → E.bk d' m' → E'.bk sg' H'
  ct : ∀ sg' H' d' m', Step m H m' H' → MSat m' H' → ESat xc d' m' sg' H' → E.ct d' m' → E'.ct sg' H'
theorem EOk.step {xc : Xc} {E : De} {E' : Ends} {m m1 : M} {H H1 : Hp} (e : EOk xc E E' m H) (s : Step m H m1 H1) : EOk xc E E' m1 H1 :=
  ⟨fun a b c d z => e.nx a b c d (s.trans z), fun a b c d z => e.rt a b c d (s.trans z), fun a b c d z => e.bk a b c d (s.trans z), fun a b c d z => e.ct a b c d (s.trans z)⟩
def gs (xc : Xc) (t : TS) (E : De) (d : Dl) (m : M) : Prop := ∀ sg H, MSat m H → ESat xc d m sg H → ∀ E' : Ends, EOk xc E E' m H → t E' sg H
/-- a target -/
def gg (xc : Xc) (g : TG) (x : D) (d : Dl) (m : M) (Q : Dl → M → Prop) : Prop :=
  ∀ v sg H, MSat m H → ESat xc d m sg H → Rep (off m) H x v → ∀ Q' : L2.St → Hp → Prop, (∀ sg' H' d' m', Step m H m' H' → MSat m' H' → ESat xc d' m' sg' H' → Q d' m' → Q' sg' H') → g v sg H Q'
def ggs (xc : Xc) (g : TGs) (xs : List D) (d : Dl) (m : M) (Q : Dl → M → Prop) : Prop :=
  ∀ vs sg H, MSat m H → ESat xc d m sg H → Reps (off m) H xs vs → ∀ Q' : L2.St → Hp → Prop, (∀ sg' H' d' m', Step m H m' H' → MSat m' H' → ESat xc d' m' sg' H' → Q d' m' → Q' sg' H') → g vs sg H Q'
/-- an operator on values; a call on values -/
def g2 (r : R2) (x y : D) (m : M) (Q : D → M → Prop) : Prop :=
  ∀ H vx vy, MSat m H → Rep (off m) H x vx → Rep (off m) H y vy → ∀ Q' : VK, (∀ v H' z m', Step m H m' H' → Rep (off m') H' z v → MSat m' H' → Q z m' → Q' v H') → r vx vy H Q'
def g1 (r : V → Hp → VK → Prop) (x : D) (m : M) (Q : D → M → Prop) : Prop :=
  ∀ H vx, MSat m H → Rep (off m) H x vx → ∀ Q' : VK, (∀ v H' z m', Step m H m' H' → Rep (off m') H' z v → MSat m' H' → Q z m' → Q' v H') → r vx H Q'
def gc (r : List V → Hp → VK → Prop) (xs : List D) (m : M) (Q : D → M → Prop) : Prop :=
  ∀ H vs, MSat m H → Reps (off m) H xs vs → ∀ Q' : VK, (∀ v H' z m', Step m H m' H' → Rep (off m') H' z v → MSat m' H' → Q z m' → Q' v H') → r vs H Q'

section
variable {xc : Xc} {d : Dl} {m : M} {Q : D → M → Prop} {E : De} {ta tb te : TE} {tt uu : TT} {ts tu : TS} {aa ar : TA}
theorem ge.mono {Q1 : D → M → Prop} (h : ge xc te d m Q1) (k : ∀ x m', Q1 x m' → Q x m') : ge xc te d m Q := fun sg H s e Q' q => h sg H s e Q' fun v H' x m' a b c z => q v H' x m' a b c (k x m' z)
theorem gt.mono {Q1 Q2 : Bool → M → Prop} (h : gt xc tt d m Q1) (k : ∀ x m', Q1 x m' → Q2 x m') : gt xc tt d m Q2 := fun sg H s e Q' q => h sg H s e Q' fun v H' m' a b z => q v H' m' a b (k v m' z)
theorem ge_var {i : Nat} {x : D} (h : d[i]? = some (some x)) (q : Q x m) : ge xc (tVar i) d m Q := fun sg H s e Q' k => by
  obtain ⟨v, h1, h2⟩ := e.get i x h
  exact ⟨v, h1, k v H x m .refl h2 s q⟩
theorem ge_int {i : Int} (q : Q (.int i) m) : ge xc (tC (.int i)) d m Q := fun sg H s e Q' k => k _ H _ m .refl (.int i) s q
theorem ge_bl {i : Bool} (q : Q (.bl i) m) : ge xc (tC (.bl i)) d m Q := fun sg H s e Q' k => k _ H _ m .refl (.bl i) s q
theorem ge_str {i : Str} (q : Q (.str i) m) : ge xc (tC (.str i)) d m Q := fun sg H s e Q' k => k _ H _ m .refl (.str i) s q
theorem ge_non (q : Q .non m) : ge xc (tC .non) d m Q := fun sg H s e Q' k => k _ H _ m .refl .non s q
theorem ge_ty {n : String} (q : Q (.ty n) m) : ge xc (tC (.ty n)) d m Q := fun sg H s e Q' k => k _ H _ m .refl (.ty n) s q
theorem ge_ref {a : Addr} (q : Q (.ref a) m) : ge xc (tC (.ref a)) d m Q := fun sg H s e Q' k => k _ H _ m .refl (.ref a) s q
theorem ge_op {r : R2} (h : ge xc ta d m fun x m1 => ge xc tb d m1 fun y m2 => g2 r x y m2 Q) : ge xc (tOp r ta tb) d m Q := fun sg H s e Q' k =>
  h sg H s e _ fun v H1 x m1 s1 r1 t1 h1 => h1 sg H1 t1 (e.step s1) _ fun u H2 y m2 s2 r2 t2 h2 => h2 H2 v u t2 (r1.step s2) r2 Q' fun w H3 z m3 s3 r3 t3 q => k w H3 z m3 ((s1.trans s2).trans s3) r3 t3 q
theorem ge_un {r : V → Hp → VK → Prop} (h : ge xc ta d m fun x m1 => g1 r x m1 Q) : ge xc (tUn r ta) d m Q := fun sg H s e Q' k =>
  h sg H s e _ fun v H1 x m1 s1 r1 t1 h1 => h1 H1 v t1 r1 Q' fun w H3 z m3 s3 r3 t3 q => k w H3 z m3 (s1.trans s3) r3 t3 q
theorem ga_nil {Q : List D → M → Prop} (q : Q [] m) : ga xc tNil d m Q := fun sg H s e Q' k => k _ H _ m .refl .nil s q
theorem ga_cons {Q : List D → M → Prop} (h : ge xc ta d m fun x m1 => ga xc ar d m1 fun xs m2 => Q (x :: xs) m2) : ga xc (tCons ta ar) d m Q := fun sg H s e Q' k =>
  h sg H s e _ fun v H1 x m1 s1 r1 t1 h1 => h1 sg H1 t1 (e.step s1) _ fun vs H2 xs m2 s2 r2 t2 h2 => k _ H2 _ m2 (s1.trans s2) (.cons (r1.step s2) r2) t2 h2
theorem ge_tup (h : ga xc aa d m fun xs m1 => xs.length ≤ 100000 ∧ Q (.tup xs) m1) : ge xc (tTup aa) d m Q := fun sg H s e Q' k =>
  h sg H s e _ fun vs H1 xs m1 s1 r1 t1 ⟨hl, q⟩ => ⟨by rw [← r1.length]; exact Nat.le_trans hl (by decide), fun p np =>
    k _ _ (.tup xs) m1 (s1.trans (.fresh np)) (.tup upd_same (r1.step (.fresh np))) (t1.fresh np) q⟩
theorem ge_lst (h : ga xc aa d m fun xs m1 => xs.length ≤ 100000 ∧ Q (.lst xs) m1) : ge xc (tLst aa) d m Q := fun sg H s e Q' k =>
  h sg H s e _ fun vs H1 xs m1 s1 r1 t1 ⟨hl, q⟩ => ⟨by rw [← r1.length]; exact Nat.le_trans hl (by decide), fun p np =>
    k _ _ (.lst xs) m1 (s1.trans (.fresh np)) (.lst (t1.off_new np) upd_same (r1.step (.fresh np))) (t1.fresh np) q⟩
/-- a list display as a cell -/
theorem ge_lstM (h : ga xc aa d m fun xs m1 => xs.length ≤ 100000 ∧ ∀ p, p ∉ dom m1 → Q (.ref p) ((p, .lst xs) :: m1)) : ge xc (tLst aa) d m Q := fun sg H s e Q' k =>
  h sg H s e _ fun vs H1 xs m1 s1 r1 t1 ⟨hl, q⟩ => ⟨by rw [← r1.length]; exact Nat.le_trans hl (by decide), fun p np =>
    k _ _ (.ref p) _ (s1.trans (.cell np)) (.ref p) (t1.cell np r1) (q p (t1.off_new np))⟩
theorem ge_cb {r : List V → Hp → VK → Prop} (h : ga xc aa d m fun xs m1 => gc r xs m1 Q) : ge xc (tCB r aa) d m Q := fun sg H s e Q' k =>
  h sg H s e _ fun v H1 x m1 s1 r1 t1 h1 => h1 H1 v t1 r1 Q' fun w H3 z m3 s3 r3 t3 q => k w H3 z m3 (s1.trans s3) r3 t3 q
/-! tests -/
theorem gt_test {Q : Bool → M → Prop} (h : ge xc te d m fun x m1 => ∃ b, x = .bl b ∧ Q b m1) : gt xc (tTest te) d m Q := fun sg H s e Q' k =>
  h sg H s e _ fun v H1 x m1 s1 r1 t1 ⟨b, hb, q⟩ => by
    subst hb
    exact ⟨b, r1.bl_inv, k b H1 m1 s1 t1 q⟩
theorem gt_B {Q : Bool → M → Prop} (h : ge xc te d m fun x m1 => ∃ b, x = .bl b ∧ Q b m1) : gt xc (tB te) d m Q := fun sg H s e Q' k =>
  h sg H s e _ fun v H1 x m1 s1 r1 t1 ⟨b, hb, q⟩ => by
    subst hb
    exact ⟨b, r1.bl_inv, k b H1 m1 s1 t1 q⟩
theorem gt_not {Q : Bool → M → Prop} (h : gt xc tt d m fun b m1 => Q (!b) m1) : gt xc (tNot tt) d m Q := fun sg H s e Q' k =>
  h sg H s e _ fun b H1 m1 s1 t1 q => k _ H1 m1 s1 t1 q
theorem gt_and {Q : Bool → M → Prop} (h : gt xc tt d m fun b m1 => if b = true then gt xc uu d m1 Q else Q false m1) : gt xc (tAnd tt uu) d m Q := fun sg H s e Q' k =>
  h sg H s e _ fun b H1 m1 s1 t1 q => by
    cases b with
    | true => exact q sg H1 t1 (e.step s1) Q' fun b H2 m2 s2 t2 q2 => k b H2 m2 (s1.trans s2) t2 q2
    | false => exact k _ H1 m1 s1 t1 q
theorem gt_or {Q : Bool → M → Prop} (h : gt xc tt d m fun b m1 => if b = true then Q true m1 else gt xc uu d m1 Q) : gt xc (tOr tt uu) d m Q := fun sg H s e Q' k =>
  h sg H s e _ fun b H1 m1 s1 t1 q => by
    cases b with
    | false => exact q sg H1 t1 (e.step s1) Q' fun b H2 m2 s2 t2 q2 => k b H2 m2 (s1.trans s2) t2 q2
    | true => exact k _ H1 m1 s1 t1 q
theorem ge_andV (h : ge xc ta d m fun x m1 => ∃ b, x = .bl b ∧ if b = true then ge xc tb d m1 Q else Q (.bl false) m1) : ge xc (tAndV ta tb) d m Q := fun sg H s e Q' k =>
  h sg H s e _ fun v H1 x m1 s1 r1 t1 ⟨b, hb, q⟩ => by
    subst hb
    refine ⟨b, r1.bl_inv, ?_⟩
    cases b with
    | true => exact q sg H1 t1 (e.step s1) Q' fun b H2 x m2 s2 t2 r2 q2 => k b H2 x m2 (s1.trans s2) t2 r2 q2
    | false => exact k _ H1 _ m1 s1 (.bl false) t1 q
theorem ge_orV (h : ge xc ta d m fun x m1 => ∃ b, x = .bl b ∧ if b = true then Q (.bl true) m1 else ge xc tb d m1 Q) : ge xc (tOrV ta tb) d m Q := fun sg H s e Q' k =>
  h sg H s e _ fun v H1 x m1 s1 r1 t1 ⟨b, hb, q⟩ => by
    subst hb
    refine ⟨b, r1.bl_inv, ?_⟩
    cases b with
    | false => exact q sg H1 t1 (e.step s1) Q' fun b H2 x m2 s2 t2 r2 q2 => k b H2 x m2 (s1.trans s2) t2 r2 q2
    | true => exact k _ H1 _ m1 s1 (.bl true) t1 q
theorem ge_notV (h : ge xc ta d m fun x m1 => ∃ b, x = .bl b ∧ Q (.bl (!b)) m1) : ge xc (tNotV ta) d m Q := fun sg H s e Q' k =>
  h sg H s e _ fun v H1 x m1 s1 r1 t1 ⟨b, hb, q⟩ => by
    subst hb
    exact ⟨b, r1.bl_inv, k _ H1 _ m1 s1 (.bl _) t1 q⟩
theorem ge_if (h : gt xc tt d m fun b m1 => if b = true then ge xc ta d m1 Q else ge xc tb d m1 Q) : ge xc (tIf tt ta tb) d m Q := fun sg H s e Q' k =>
  h sg H s e _ fun b H1 m1 s1 t1 q => by
    cases b with
    | true => exact q sg H1 t1 (e.step s1) Q' fun b H2 x m2 s2 t2 r2 q2 => k b H2 x m2 (s1.trans s2) t2 r2 q2
    | false => exact q sg H1 t1 (e.step s1) Q' fun b H2 x m2 s2 t2 r2 q2 => k b H2 x m2 (s1.trans s2) t2 r2 q2
/-! a chain a < b < c -/
theorem ge_chain {r r' : R2} {tc : TE} (h : ge xc ta d m fun x m1 => ge xc tb d m1 fun y m2 => g2 r x y m2 fun z m3 => ∃ b, z = .bl b ∧ if b = true then ge xc tc d m3 fun w m4 => g2 r' y w m4 Q else Q (.bl false) m3) : ge xc (tChain r r' ta tb tc) d m Q := fun sg H s e Q' k =>
  h sg H s e _ fun v H1 x m1 s1 r1 t1 h1 => h1 sg H1 t1 (e.step s1) _ fun u H2 y m2 s2 r2 t2 h2 => h2 H2 v u t2 (r1.step s2) r2 _ fun w H3 z m3 s3 r3 t3 ⟨b, hb, q⟩ => by
    subst hb
    refine ⟨b, r3.bl_inv, ?_⟩
    cases b with
    | true => exact q sg H3 t3 (((e.step s1).step s2).step s3) _ fun w H4 x4 m4 s4 r4 t4 h4 => h4 H4 u w t4 ((r2.step s3).step s4) r4 Q' fun o H5 x5 m5 s5 r5 t5 q5 => k o H5 x5 m5 ((((s1.trans s2).trans s3).trans s4).trans s5) r5 t5 q5
    | false => exact k _ H3 _ m3 ((s1.trans s2).trans s3) (.bl false) t3 q
end
end Gd

namespace Gd
open PySem PySem.Spec PyProof.Rows L2

/-! ### operators -/
section
variable {m : M} {Q : D → M → Prop} {r r' : R2} {x y : D} {i j : Int} {K : PySem.W.Frag}
theorem g2_l (h : g2 r x y m Q) : g2 (fun x y H Q => r x y H Q ∨ r' x y H Q) x y m Q := fun H vx vy s r1 r2 Q' k => .inl (h H vx vy s r1 r2 Q' k)
theorem g2_r (h : g2 r' x y m Q) : g2 (fun x y H Q => r x y H Q ∨ r' x y H Q) x y m Q := fun H vx vy s r1 r2 Q' k => .inr (h H vx vy s r1 r2 Q' k)
theorem g2_int {g : Int → Int → Int} (q : Q (.int (g i j)) m) : g2 (rI0 fun i j => .int (g i j)) (.int i) (.int j) m Q := fun H vx vy s r1 r2 Q' k => by
  rw [r1.int_inv, r2.int_inv]
  exact ⟨i, j, rfl, rfl, k _ H _ m .refl (.int _) s q⟩
theorem g2_bl {g : Int → Int → Bool} (q : Q (.bl (g i j)) m) : g2 (rI0 fun i j => .bl (g i j)) (.int i) (.int j) m Q := fun H vx vy s r1 r2 Q' k => by
  rw [r1.int_inv, r2.int_inv]
  exact ⟨i, j, rfl, rfl, k _ H _ m .refl (.bl _) s q⟩
theorem g2_intC {C : Int → Int → Prop} {g : Int → Int → Int} (c : C i j) (q : Q (.int (g i j)) m) : g2 (rI C fun i j => .int (g i j)) (.int i) (.int j) m Q := fun H vx vy s r1 r2 Q' k => by
  rw [r1.int_inv, r2.int_inv]
  exact ⟨i, j, rfl, rfl, c, k _ H _ m .refl (.int _) s q⟩
theorem g2_str {a b : Str} (h : a.length + b.length ≤ sizeLine) (q : Q (.str (a ++ b)) m) : g2 (fun x y H Q => ∃ i j, x = .str i ∧ y = .str j ∧ i.length + j.length ≤ sizeLine ∧ Q (.str (i ++ j)) H) (.str a) (.str b) m Q := fun H vx vy s r1 r2 Q' k => by
  rw [r1.str_inv, r2.str_inv]
  exact ⟨a, b, rfl, rfl, h, k _ H _ m .refl (.str _) s q⟩
theorem g2_cat {xs ys : List D} (h : xs.length + ys.length ≤ sizeLine) (q : Q (.lst (xs ++ ys)) m) : g2 rCat (.lst xs) (.lst ys) m Q := fun H vx vy s r1 r2 Q' k => by
  obtain ⟨a, us, rfl, oa, ea, ra⟩ := r1.lst_inv
  obtain ⟨b, vs, rfl, ob, eb, rb⟩ := r2.lst_inv
  exact ⟨a, b, us, vs, rfl, rfl, ea, eb, by rw [← ra.length, ← rb.length]; exact h, fun p np => k _ _ (.lst (xs ++ ys)) m (.fresh np) (.lst (s.off_new np) upd_same ((ra.append rb).step (.fresh np))) (s.fresh np) q⟩
/-- the sum of two lists as a cell -/
theorem g2_catM {xs ys : List D} (h : xs.length + ys.length ≤ sizeLine) (q : ∀ p, p ∉ dom m → Q (.ref p) ((p, .lst (xs ++ ys)) :: m)) : g2 rCat (.lst xs) (.lst ys) m Q := fun H vx vy s r1 r2 Q' k => by
  obtain ⟨a, us, rfl, oa, ea, ra⟩ := r1.lst_inv
  obtain ⟨b, vs, rfl, ob, eb, rb⟩ := r2.lst_inv
  exact ⟨a, b, us, vs, rfl, rfl, ea, eb, by rw [← ra.length, ← rb.length]; exact h, fun p np => k _ _ (.ref p) _ (.cell np) (.ref p) (s.cell np (ra.append rb)) (q p (s.off_new np))⟩
theorem g1_int {g : Int → Int} (q : Q (.int (g i)) m) : g1 (rU fun i => .int (g i)) (.int i) m Q := fun H vx s r1 Q' k => by
  rw [r1.int_inv]
  exact ⟨i, rfl, k _ H _ m .refl (.int _) s q⟩
/-! is None -/
def isN : D → Bool
  | .non => true
  | _ => false
theorem Rep.isN {ok : Addr → Prop} {H : Hp} {d : D} {v : V} (r : Rep ok H d v) : decide (v = .non) = Gd.isN d := by
  cases r <;> first | rfl | (exact decide_eq_false (fun z => nomatch z))
theorem g2_isN (q : Q (.bl (isN x)) m) : g2 (fun x y H Q => y = .non ∧ Q (.bl (decide (x = .non))) H) x .non m Q := fun H vx vy s r1 r2 Q' k => by
  rw [r2.non_inv]
  refine ⟨rfl, ?_⟩
  rw [r1.isN]
  exact k _ H _ m .refl (.bl _) s q
theorem g2_notN (q : Q (.bl (!isN x)) m) : g2 (fun x y H Q => y = .non ∧ Q (.bl (!decide (x = .non))) H) x .non m Q := fun H vx vy s r1 r2 Q' k => by
  rw [r2.non_inv]
  refine ⟨rfl, ?_⟩
  rw [r1.isN]
  exact k _ H _ m .refl (.bl _) s q
/-! subscripts -/
theorem Reps.atI {ok : Addr → Prop} {H : Hp} {ds : List D} {vs : List V} {i : Int} {d : D} (r : Reps ok H ds vs) (h : L2.atI ds i = some d) : ∃ v, L2.atI vs i = some v ∧ Rep ok H d v := by
  unfold L2.atI at h ⊢
  rw [← r.length]
  cases e : ixN ds.length i with
  | none => rw [e] at h; cases h
  | some j =>
    rw [e] at h
    exact r.get h
theorem g2_ixL {ds : List D} {z : D} (h : atI ds i = some z) (q : Q z m) : g2 (rIxL K) (.lst ds) (.int i) m Q := fun H vx vy s r1 r2 Q' k => by
  obtain ⟨a, us, rfl, oa, ea, ra⟩ := r1.lst_inv
  obtain ⟨v, h1, h2⟩ := ra.atI h
  exact ⟨a, us, i, v, rfl, r2.int_inv, .inl (.inl ea), h1, k _ H _ m .refl h2 s q⟩
theorem g2_ixT {ds : List D} {z : D} (h : atI ds i = some z) (q : Q z m) : g2 (rIxT K) (.tup ds) (.int i) m Q := fun H vx vy s r1 r2 Q' k => by
  obtain ⟨a, us, rfl, ea, ra⟩ := r1.tup_inv
  obtain ⟨v, h1, h2⟩ := ra.atI h
  exact ⟨a, us, i, v, rfl, r2.int_inv, .inl (.inl ea), h1, k _ H _ m .refl h2 s q⟩
theorem g2_ixM {a : Addr} {j : Nat} {ds : List D} {z : D} (hm : m[j]? = some (a, .lst ds)) (h : atI ds i = some z) (q : Q z m) : g2 (rIxL K) (.ref a) (.int i) m Q := fun H vx vy s r1 r2 Q' k => by
  obtain ⟨us, ea, ra⟩ := s.get hm
  obtain ⟨v, h1, h2⟩ := ra.atI h
  exact ⟨a, us, i, v, r1.ref_inv, r2.int_inv, .inl (.inl ea), h1, k _ H _ m .refl h2 s q⟩
theorem Rep.scr_inv {ok : Addr → Prop} {H : Hp} {ns : List Int} {v : V} (r : Rep ok H (.scr K ns) v) : ∃ a, v = .ref a ∧ ScrAt K H a ns := by
  cases r with | scr h => exact ⟨_, rfl, h⟩
theorem atI_map {α β : Type} {f : α → β} {xs : List α} {i : Int} : L2.atI (xs.map f) i = (L2.atI xs i).map f := by
  unfold L2.atI
  rw [List.length_map]
  cases ixN xs.length i with
  | none => rfl
  | some j =>
    show (xs.map f)[j]? = (xs[j]?).map f
    rw [List.getElem?_map]
theorem g2_ixS {ns : List Int} {n : Int} (h : atI ns i = some n) (q : Q (.int n) m) : g2 (rIxL K) (.scr K ns) (.int i) m Q := fun H vx vy s r1 r2 Q' k => by
  obtain ⟨a, rfl, sa⟩ := r1.scr_inv
  exact ⟨a, ns.map V.int, i, .int n, rfl, r2.int_inv, sa.sq, by rw [atI_map, h]; rfl, k _ H _ m .refl (.int n) s q⟩
end

/-! ### data as the library's -/
mutual
def toPy : D → PyData
  | .bl b => .bool b
  | .int i => .int i
  | .str x => .str x
  | .tup ds => .tuple (toPys ds)
  | .lst ds => .list (toPys ds)
  | .scr _ ns => .list (ns.map PyData.int)
  | _ => .none
def toPys : List D → List PyData
  | [] => []
  | d :: ds => toPy d :: toPys ds
end
mutual
/-- free of references, below a depth -/
inductive Sh : Nat → D → Prop
  | non (n : Nat) : Sh n .non
  | bl (n : Nat) (b : Bool) : Sh n (.bl b)
  | int (n : Nat) (i : Int) : Sh n (.int i)
  | str (n : Nat) (x : Str) : PyData.canLay0 (.str x) = true → Sh n (.str x)
  | tup {n : Nat} {ds : List D} : Shs n ds → Sh (n + 1) (.tup ds)
  | lst {n : Nat} {ds : List D} : Shs n ds → Sh (n + 1) (.lst ds)
inductive Shs : Nat → List D → Prop
  | nil (n : Nat) : Shs n []
  | cons {n : Nat} {d : D} {ds : List D} : Sh n d → Shs n ds → Shs n (d :: ds)
end
mutual
theorem Sh.le : ∀ {n k : Nat} {d : D}, Sh n d → n ≤ k → Sh k d
  | _, _, _, .non _, _ => .non _
  | _, _, _, .bl _ b, _ => .bl _ b
  | _, _, _, .int _ i, _ => .int _ i
  | _, _, _, .str _ x h, _ => .str _ x h
  | _, 0, _, .tup _, h => absurd h (Nat.not_succ_le_zero _)
  | _, 0, _, .lst _, h => absurd h (Nat.not_succ_le_zero _)
  | _, k + 1, _, .tup hs, h => .tup (Shs.le hs (Nat.le_of_succ_le_succ h))
  | _, k + 1, _, .lst hs, h => .lst (Shs.le hs (Nat.le_of_succ_le_succ h))
theorem Shs.le : ∀ {n k : Nat} {ds : List D}, Shs n ds → n ≤ k → Shs k ds
  | _, _, _, .nil _, _ => .nil _
  | _, _, _, .cons h hs, l => .cons (Sh.le h l) (Shs.le hs l)
end
theorem Shs.mem : ∀ {n : Nat} {ds : List D} {x : D}, Shs n ds → x ∈ ds → Sh n x
  | _, _, _, .cons h hs, hx => by
    rcases List.mem_cons.mp hx with e | hx
    · rw [e]; exact h
    · exact Shs.mem hs hx
theorem Shs.of_all {n : Nat} : ∀ {ds : List D}, (∀ d ∈ ds, Sh n d) → Shs n ds
  | [], _ => .nil n
  | d :: ds, h => .cons (h d List.mem_cons_self) (Shs.of_all fun e he => h e (List.mem_cons_of_mem _ he))
theorem Shs.ints {n : Nat} (ns : List Int) : Shs n (ns.map D.int) := .of_all fun d hd => by
  obtain ⟨i, _, e⟩ := List.mem_map.mp hd
  rw [← e]
  exact .int n i
mutual
theorem Sh.dp {ok : Addr → Prop} {H : Hp} {K : PySem.W.Frag} : ∀ {n : Nat} {d : D} {v : V}, Sh n d → Rep ok H d v → Dp K H v (toPy d)
  | _, _, _, .non _, r => by rw [r.non_inv]; exact .non
  | _, _, _, .bl _ b, r => by rw [r.bl_inv]; exact .bl b
  | _, _, _, .int _ i, r => by rw [r.int_inv]; exact .int i
  | _, _, _, .str _ x _, r => by rw [r.str_inv]; exact .str x
  | _, _, _, .tup hs, r => by
    obtain ⟨a, xs, rfl, e, rs⟩ := r.tup_inv
    exact .tup (.inl (.inl e)) (Shs.dp hs rs)
  | _, _, _, .lst hs, r => by
    obtain ⟨a, xs, rfl, _, e, rs⟩ := r.lst_inv
    exact .lst (.inl (.inl e)) (Shs.dp hs rs)
theorem Shs.dp {ok : Addr → Prop} {H : Hp} {K : PySem.W.Frag} : ∀ {n : Nat} {ds : List D} {vs : List V}, Shs n ds → Reps ok H ds vs → DpAll K H vs (toPys ds)
  | _, _, _, .nil _, .nil => .nil
  | _, _, _, .cons h hs, .cons r rs => .cons (Sh.dp h r) (Shs.dp hs rs)
end
mutual
theorem Sh.lay : ∀ {n : Nat} {d : D}, Sh n d → PyData.canLay0 (toPy d) = true
  | _, _, .non _ => rfl
  | _, _, .bl _ b => rfl
  | _, _, .int _ i => rfl
  | _, _, .str _ x h => h
  | _, _, .tup hs => by
    have := Shs.lay hs
    simp only [toPy, PyData.canLay0]
    exact this
  | _, _, .lst hs => by
    have := Shs.lay hs
    simp only [toPy, PyData.canLay0]
    exact this
theorem Shs.lay : ∀ {n : Nat} {ds : List D}, Shs n ds → PyData.canLayAll0 (toPys ds) = true
  | _, _, .nil _ => rfl
  | _, _, .cons h hs => by
    simp only [toPys, PyData.canLayAll0, Sh.lay h, Shs.lay hs, Bool.and_self]
end
mutual
theorem Sh.dep : ∀ {n : Nat} {d : D}, Sh n d → (toPy d).depth ≤ n
  | _, _, .non _ => by simp only [toPy, PyData.depth]; omega
  | _, _, .bl _ b => by simp only [toPy, PyData.depth]; omega
  | _, _, .int _ i => by simp only [toPy, PyData.depth]; omega
  | _, _, .str _ x h => by simp only [toPy, PyData.depth]; omega
  | _, _, .tup hs => by
    have := Shs.dep hs
    simp only [toPy, PyData.depth]
    omega
  | _, _, .lst hs => by
    have := Shs.dep hs
    simp only [toPy, PyData.depth]
    omega
theorem Shs.dep : ∀ {n : Nat} {ds : List D}, Shs n ds → PyData.depthAll (toPys ds) ≤ n
  | _, _, .nil _ => by simp only [toPys, PyData.depthAll]; omega
  | _, _, .cons h hs => by
    have h1 := Sh.dep h
    have h2 := Shs.dep hs
    simp only [toPys, PyData.depthAll]
    omega
end
theorem Sh.shaped {d : D} (h : Sh 64 d) : SeqAt.shaped (toPy d) = true := by
  unfold SeqAt.shaped
  rw [h.lay, decide_eq_true h.dep]
  rfl
def deq (x y : D) : Bool := PyData.eqv (toPy x) (toPy y)
section
variable {m : M} {Q : D → M → Prop} {x y : D} {K : PySem.W.Frag}
theorem g2_eq (h1 : Sh 64 x) (h2 : Sh 64 y) (q : Q (.bl (deq x y)) m) : g2 (rEqD K) x y m Q := fun H vx vy s r1 r2 Q' k =>
  ⟨toPy x, toPy y, h1.dp r1, h2.dp r2, h1.shaped, h2.shaped, k _ H _ m .refl (.bl _) s q⟩
theorem g2_ne (h1 : Sh 64 x) (h2 : Sh 64 y) (q : Q (.bl (!deq x y)) m) : g2 (rNeD K) x y m Q := fun H vx vy s r1 r2 Q' k =>
  ⟨toPy x, toPy y, h1.dp r1, h2.dp r2, h1.shaped, h2.shaped, k _ H _ m .refl (.bl _) s q⟩
theorem dp_ints {H : Hp} : ∀ (ns : List Int), DpAll K H (ns.map V.int) (ns.map PyData.int)
  | [] => .nil
  | n :: ns => .cons (.int n) (dp_ints ns)
theorem lay_ints : ∀ (ns : List Int), PyData.canLayAll0 (ns.map PyData.int) = true
  | [] => rfl
  | n :: ns => by
    show (PyData.canLay0 (.int n) && PyData.canLayAll0 (ns.map PyData.int)) = true
    rw [lay_ints ns]
    rfl
theorem dep_ints : ∀ (ns : List Int), PyData.depthAll (ns.map PyData.int) ≤ 0
  | [] => Nat.le_refl _
  | n :: ns => by
    show max (PyData.depth (.int n)) (PyData.depthAll (ns.map PyData.int)) ≤ 0
    have h := dep_ints ns
    have h2 : PyData.depth (.int n) = 0 := by simp only [PyData.depth]
    omega
theorem sh_scr (ns : List Int) : SeqAt.shaped (.list (ns.map PyData.int)) = true := by
  unfold SeqAt.shaped
  have h1 := lay_ints ns
  have h2 := dep_ints ns
  have e1 : PyData.canLay0 (.list (ns.map PyData.int)) = true := by simp only [PyData.canLay0]; exact h1
  have e2 : PyData.depth (.list (ns.map PyData.int)) ≤ 64 := by simp only [PyData.depth]; omega
  rw [e1, decide_eq_true e2]
  rfl
/-- script == [] -/
theorem g2_eqS {ns : List Int} (q : Q (.bl ns.isEmpty) m) : g2 (rEqD K) (.scr K ns) (.lst []) m Q := fun H vx vy s r1 r2 Q' k => by
  obtain ⟨a, rfl, sa⟩ := r1.scr_inv
  have e : PyData.eqv (.list (ns.map PyData.int)) (.list []) = ns.isEmpty := by
    cases ns with
    | nil => rfl
    | cons n ns => rfl
  refine ⟨.list (ns.map PyData.int), .list [], .lst sa.sq (dp_ints ns), (Sh.lst (n := 63) (.nil _)).dp r2, sh_scr ns, sh_scr [], ?_⟩
  rw [e]
  exact k _ H _ m .refl (.bl _) s q
end

/-! ### calls of built-ins -/
section
variable {m : M} {Q : D → M → Prop} {i j : Int} {K : PySem.W.Frag} {ds : List D}
theorem gc_lenL (q : Q (.int ds.length) m) : gc (fun xs H Q => ∃ x n, xs = [x] ∧ LenV K x H n ∧ Q (.int n) H) [.lst ds] m Q := fun H vs s r Q' k => by
  cases r with | cons r1 r2 =>
  cases r2
  obtain ⟨a, us, rfl, oa, ea, ra⟩ := r1.lst_inv
  refine ⟨_, ds.length, rfl, .inl ⟨us, .inl (.inl ea), ra.length⟩, k _ H _ m .refl (.int _) s q⟩
theorem gc_lenT (q : Q (.int ds.length) m) : gc (fun xs H Q => ∃ x n, xs = [x] ∧ LenV K x H n ∧ Q (.int n) H) [.tup ds] m Q := fun H vs s r Q' k => by
  cases r with | cons r1 r2 =>
  cases r2
  obtain ⟨a, us, rfl, ea, ra⟩ := r1.tup_inv
  refine ⟨_, ds.length, rfl, .inr ⟨us, .inl (.inl ea), ra.length⟩, k _ H _ m .refl (.int _) s q⟩
theorem gc_lenM {a : Addr} {j : Nat} (hm : m[j]? = some (a, .lst ds)) (q : Q (.int ds.length) m) : gc (fun xs H Q => ∃ x n, xs = [x] ∧ LenV K x H n ∧ Q (.int n) H) [.ref a] m Q := fun H vs s r Q' k => by
  cases r with | cons r1 r2 =>
  cases r2
  obtain ⟨us, ea, ra⟩ := s.get hm
  rw [r1.ref_inv]
  refine ⟨_, ds.length, rfl, .inl ⟨us, .inl (.inl ea), ra.length⟩, k _ H _ m .refl (.int _) s q⟩
theorem gc_lenS {ns : List Int} (q : Q (.int ns.length) m) : gc (fun xs H Q => ∃ x n, xs = [x] ∧ LenV K x H n ∧ Q (.int n) H) [.scr K ns] m Q := fun H vs s r Q' k => by
  cases r with | cons r1 r2 =>
  cases r2
  obtain ⟨a, rfl, sa⟩ := r1.scr_inv
  refine ⟨_, ns.length, rfl, .inl ⟨_, sa.sq, by rw [List.length_map]⟩, k _ H _ m .refl (.int _) s q⟩
theorem gc_lenStr {z : Str} (h : z.length ≤ sizeLine) (q : Q (.int z.length) m) : gc (fun xs H Q => ∃ x n, xs = [x] ∧ LenV K x H n ∧ Q (.int n) H) [.str z] m Q := fun H vs s r Q' k => by
  cases r with | cons r1 r2 =>
  cases r2
  rw [r1.str_inv]
  exact ⟨_, z.length, rfl, ⟨h, rfl⟩, k _ H _ m .refl (.int _) s q⟩
abbrev rListOf (K : PySem.W.Frag) : List V → Hp → VK → Prop := fun xs H Q => ∃ p ys, xs = [.ref p] ∧ (SqL K H p ys ∨ SqT K H p ys) ∧ ∀ l, H l = none → Q (.ref l) (upd H l (.lst ys))
theorem gc_listL (q : Q (.lst ds) m) : gc (rListOf K) [.lst ds] m Q := fun H vs s r Q' k => by
  cases r with | cons r1 r2 =>
  cases r2
  obtain ⟨a, us, rfl, oa, ea, ra⟩ := r1.lst_inv
  exact ⟨a, us, rfl, .inl (.inl (.inl ea)), fun p np => k _ _ (.lst ds) m (.fresh np) (.lst (s.off_new np) upd_same (ra.step (.fresh np))) (s.fresh np) q⟩
theorem gc_listT (q : Q (.lst ds) m) : gc (rListOf K) [.tup ds] m Q := fun H vs s r Q' k => by
  cases r with | cons r1 r2 =>
  cases r2
  obtain ⟨a, us, rfl, ea, ra⟩ := r1.tup_inv
  exact ⟨a, us, rfl, .inr (.inl (.inl ea)), fun p np => k _ _ (.lst ds) m (.fresh np) (.lst (s.off_new np) upd_same (ra.step (.fresh np))) (s.fresh np) q⟩
theorem gc_listS {ns : List Int} (q : Q (.lst (ns.map D.int)) m) : gc (rListOf K) [.scr K ns] m Q := fun H vs s r Q' k => by
  cases r with | cons r1 r2 =>
  cases r2
  obtain ⟨a, rfl, sa⟩ := r1.scr_inv
  exact ⟨a, _, rfl, .inl sa.sq, fun p np => k _ _ (.lst (ns.map D.int)) m (.fresh np) (.lst (s.off_new np) upd_same (Reps.ints ns)) (s.fresh np) q⟩
theorem gc_listM {a : Addr} {j : Nat} (hm : m[j]? = some (a, .lst ds)) (q : Q (.lst ds) m) : gc (rListOf K) [.ref a] m Q := fun H vs s r Q' k => by
  cases r with | cons r1 r2 =>
  cases r2
  obtain ⟨us, ea, ra⟩ := s.get hm
  rw [r1.ref_inv]
  exact ⟨a, us, rfl, .inl (.inl (.inl ea)), fun p np => k _ _ (.lst ds) m (.fresh np) (.lst (s.off_new np) upd_same (ra.step (.fresh np))) (s.fresh np) q⟩
theorem gc_max2 (q : Q (.int (if j > i then j else i)) m) : gc (fun xs H Q => ∃ i j, xs = [.int i, .int j] ∧ Q (.int (if j > i then j else i)) H) [.int i, .int j] m Q := fun H vs s r Q' k => by
  cases r with | cons r1 r2 =>
  cases r2 with | cons r2 r3 =>
  cases r3
  rw [r1.int_inv, r2.int_inv]
  exact ⟨i, j, rfl, k _ H _ m .refl (.int _) s q⟩
theorem gc_min2 (q : Q (.int (if j < i then j else i)) m) : gc (fun xs H Q => ∃ i j, xs = [.int i, .int j] ∧ Q (.int (if j < i then j else i)) H) [.int i, .int j] m Q := fun H vs s r Q' k => by
  cases r with | cons r1 r2 =>
  cases r2 with | cons r2 r3 =>
  cases r3
  rw [r1.int_inv, r2.int_inv]
  exact ⟨i, j, rfl, k _ H _ m .refl (.int _) s q⟩
theorem gc_abs (q : Q (.int (if i < 0 then -i else i)) m) : gc (fun xs H Q => ∃ i, xs = [.int i] ∧ Q (.int (if i < 0 then -i else i)) H) [.int i] m Q := fun H vs s r Q' k => by
  cases r with | cons r1 r2 =>
  cases r2
  rw [r1.int_inv]
  exact ⟨i, rfl, k _ H _ m .refl (.int _) s q⟩
abbrev rInt1 : List V → Hp → VK → Prop := fun xs H Q => (∃ i, xs = [.int i] ∧ Q (.int i) H) ∨ ∃ k, xs = [.bl k] ∧ Q (.int (if k then 1 else 0)) H
theorem gc_intB {b : Bool} (q : Q (.int (if b then 1 else 0)) m) : gc rInt1 [.bl b] m Q := fun H vs s r Q' k => by
  cases r with | cons r1 r2 =>
  cases r2
  rw [r1.bl_inv]
  exact .inr ⟨b, rfl, k _ H _ m .refl (.int _) s q⟩
/-! isinstance of a built-in class -/
def tyD : D → Option String
  | .non => some "NoneType"
  | .bl _ => some "bool"
  | .int _ => some "int"
  | .str _ => some "str"
  | .tup _ => some "tuple"
  | .lst _ => some "list"
  | .dct => some "dict"
  | _ => none
theorem Rep.ty_of {ok : Addr → Prop} {H : Hp} {d : D} {v : V} {t : String} (r : Rep ok H d v) (h : tyD d = some t) : TyX K H v (.type t) := by
  cases r with
  | non => cases h; exact .base .non
  | bl b => cases h; exact .base (.bl b)
  | int i => cases h; exact .base (.int i)
  | str x => cases h; exact .base (.str x)
  | ref a => cases h
  | ty n => cases h
  | tup e r => cases h; exact .base (.tup e)
  | lst o e r => cases h; exact .base (.lst e)
  | scr h' => cases h
  | dct o e => cases h; exact .base (.dK e)
  | obj o e l r => cases h
  | exc o e => cases h
  | excF o e o' e' l r => cases h
theorem gc_isi {x : D} {t n : String} {b : Bool} (h : tyD x = some t) (e : kitB t n = some b) (q : Q (.bl b) m) : gc (rIsi K) [x, .ty n] m Q := fun H vs s r Q' k => by
  cases r with | cons r1 r2 =>
  cases r2 with | cons r2 r3 =>
  cases r3
  rw [r2.ty_inv]
  exact ⟨_, _, .type t, .type n, b, rfl, .ty n, r1.ty_of h, kit_ty e, k _ H _ m .refl (.bl _) s q⟩
theorem kb_int_int : kitB "int" "int" = some true := by decide +kernel
theorem kb_bool_int : kitB "bool" "int" = some true := by decide +kernel
theorem kb_NoneType_int : kitB "NoneType" "int" = some false := by decide +kernel
theorem kb_str_int : kitB "str" "int" = some false := by decide +kernel
theorem kb_tuple_int : kitB "tuple" "int" = some false := by decide +kernel
theorem kb_list_int : kitB "list" "int" = some false := by decide +kernel
theorem kb_dict_int : kitB "dict" "int" = some false := by decide +kernel
theorem kb_int_bool : kitB "int" "bool" = some false := by decide +kernel
theorem kb_bool_bool : kitB "bool" "bool" = some true := by decide +kernel
theorem kb_NoneType_bool : kitB "NoneType" "bool" = some false := by decide +kernel
theorem kb_str_bool : kitB "str" "bool" = some false := by decide +kernel
theorem kb_tuple_bool : kitB "tuple" "bool" = some false := by decide +kernel
theorem kb_list_bool : kitB "list" "bool" = some false := by decide +kernel
theorem kb_dict_bool : kitB "dict" "bool" = some false := by decide +kernel
theorem kb_int_str : kitB "int" "str" = some false := by decide +kernel
theorem kb_bool_str : kitB "bool" "str" = some false := by decide +kernel
theorem kb_NoneType_str : kitB "NoneType" "str" = some false := by decide +kernel
theorem kb_str_str : kitB "str" "str" = some true := by decide +kernel
theorem kb_tuple_str : kitB "tuple" "str" = some false := by decide +kernel
theorem kb_list_str : kitB "list" "str" = some false := by decide +kernel
theorem kb_dict_str : kitB "dict" "str" = some false := by decide +kernel
theorem kb_int_tuple : kitB "int" "tuple" = some false := by decide +kernel
theorem kb_bool_tuple : kitB "bool" "tuple" = some false := by decide +kernel
theorem kb_NoneType_tuple : kitB "NoneType" "tuple" = some false := by decide +kernel
theorem kb_str_tuple : kitB "str" "tuple" = some false := by decide +kernel
theorem kb_tuple_tuple : kitB "tuple" "tuple" = some true := by decide +kernel
theorem kb_list_tuple : kitB "list" "tuple" = some false := by decide +kernel
theorem kb_dict_tuple : kitB "dict" "tuple" = some false := by decide +kernel
theorem kb_int_list : kitB "int" "list" = some false := by decide +kernel
theorem kb_bool_list : kitB "bool" "list" = some false := by decide +kernel
theorem kb_NoneType_list : kitB "NoneType" "list" = some false := by decide +kernel
theorem kb_str_list : kitB "str" "list" = some false := by decide +kernel
theorem kb_tuple_list : kitB "tuple" "list" = some false := by decide +kernel
theorem kb_list_list : kitB "list" "list" = some true := by decide +kernel
theorem kb_dict_list : kitB "dict" "list" = some false := by decide +kernel
/-- any thing that may be handed in -/
def Arg (x : D) : Prop := Sh 60 x ∨ x = .dct
def isInt : D → Bool
  | .int _ => true
  | .bl _ => true
  | _ => false
theorem gc_isInt {x : D} (a : Arg x) (q : Q (.bl (isInt x)) m) : gc (rIsi K) [x, .ty "int"] m Q := by
  rcases a with a | rfl
  · cases a with
    | non _ => exact gc_isi rfl kb_NoneType_int q
    | bl _ b => exact gc_isi rfl kb_bool_int q
    | int _ i => exact gc_isi rfl kb_int_int q
    | str _ x h => exact gc_isi rfl kb_str_int q
    | tup h => exact gc_isi rfl kb_tuple_int q
    | lst h => exact gc_isi rfl kb_list_int q
  · exact gc_isi rfl kb_dict_int q
def isBool : D → Bool
  | .bl _ => true
  | _ => false
theorem gc_isBool {x : D} (a : Arg x) (q : Q (.bl (isBool x)) m) : gc (rIsi K) [x, .ty "bool"] m Q := by
  rcases a with a | rfl
  · cases a with
    | non _ => exact gc_isi rfl kb_NoneType_bool q
    | bl _ b => exact gc_isi rfl kb_bool_bool q
    | int _ i => exact gc_isi rfl kb_int_bool q
    | str _ x h => exact gc_isi rfl kb_str_bool q
    | tup h => exact gc_isi rfl kb_tuple_bool q
    | lst h => exact gc_isi rfl kb_list_bool q
  · exact gc_isi rfl kb_dict_bool q
def isStr : D → Bool
  | .str _ => true
  | _ => false
theorem gc_isStr {x : D} (a : Arg x) (q : Q (.bl (isStr x)) m) : gc (rIsi K) [x, .ty "str"] m Q := by
  rcases a with a | rfl
  · cases a with
    | non _ => exact gc_isi rfl kb_NoneType_str q
    | bl _ b => exact gc_isi rfl kb_bool_str q
    | int _ i => exact gc_isi rfl kb_int_str q
    | str _ x h => exact gc_isi rfl kb_str_str q
    | tup h => exact gc_isi rfl kb_tuple_str q
    | lst h => exact gc_isi rfl kb_list_str q
  · exact gc_isi rfl kb_dict_str q
def isTup : D → Bool
  | .tup _ => true
  | _ => false
theorem gc_isTup {x : D} (a : Arg x) (q : Q (.bl (isTup x)) m) : gc (rIsi K) [x, .ty "tuple"] m Q := by
  rcases a with a | rfl
  · cases a with
    | non _ => exact gc_isi rfl kb_NoneType_tuple q
    | bl _ b => exact gc_isi rfl kb_bool_tuple q
    | int _ i => exact gc_isi rfl kb_int_tuple q
    | str _ x h => exact gc_isi rfl kb_str_tuple q
    | tup h => exact gc_isi rfl kb_tuple_tuple q
    | lst h => exact gc_isi rfl kb_list_tuple q
  · exact gc_isi rfl kb_dict_tuple q
def isLst : D → Bool
  | .lst _ => true
  | _ => false
theorem gc_isLst {x : D} (a : Arg x) (q : Q (.bl (isLst x)) m) : gc (rIsi K) [x, .ty "list"] m Q := by
  rcases a with a | rfl
  · cases a with
    | non _ => exact gc_isi rfl kb_NoneType_list q
    | bl _ b => exact gc_isi rfl kb_bool_list q
    | int _ i => exact gc_isi rfl kb_int_list q
    | str _ x h => exact gc_isi rfl kb_str_list q
    | tup h => exact gc_isi rfl kb_tuple_list q
    | lst h => exact gc_isi rfl kb_list_list q
  · exact gc_isi rfl kb_dict_list q
end

/-! ### statements -/
section
variable {xc : Xc} {d : Dl} {m : M} {Q : D → M → Prop} {E : De} {ta tb te : TE} {tt uu : TT} {ts tu : TS} {aa ar : TA} {g : TG} {K : PySem.W.Frag}
theorem EOk.with_nx {E : De} {E' : Ends} {H : Hp} {f : Dl → M → Prop} {f' : L2.St → Hp → Prop} (e : EOk xc E E' m H) (h : ∀ sg' H' d' m', Step m H m' H' → MSat m' H' → ESat xc d' m' sg' H' → f d' m' → f' sg' H') : EOk xc { E with nx := f } { E' with nx := f' } m H :=
  ⟨h, e.rt, e.bk, e.ct⟩
theorem gs_seq (h : gs xc ts { E with nx := gs xc tu E } d m) : gs xc (tSeq ts tu) E d m := fun sg H s e E' ok =>
  h sg H s e { E' with nx := tu E' } (ok.with_nx fun sg' H' d' m' s1 t1 e1 q => q sg' H' t1 e1 E' (ok.step s1))
theorem gs_next (q : E.nx d m) : gs xc tNext E d m := fun sg H s e E' ok => ok.nx sg H d m .refl s e q
theorem gs_brk (q : E.bk d m) : gs xc tBreak E d m := fun sg H s e E' ok => ok.bk sg H d m .refl s e q
theorem gs_cont (q : E.ct d m) : gs xc tCont E d m := fun sg H s e E' ok => ok.ct sg H d m .refl s e q
theorem gs_ret (h : ge xc te d m E.rt) : gs xc (tRet te) E d m := fun sg H s e E' ok => h sg H s e _ fun v H' x m' a b c q => ok.rt v H' x m' a b c q
theorem gs_retN (q : E.rt .non m) : gs xc tRetN E d m := fun sg H s e E' ok => ok.rt _ H _ m .refl .non s q
theorem gs_if (h : gt xc tt d m fun b m1 => if b = true then gs xc ts E d m1 else gs xc tu E d m1) : gs xc (tIfS tt ts tu) E d m := fun sg H s e E' ok =>
  h sg H s e _ fun b H1 m1 s1 t1 q => by
    cases b with
    | true => exact q sg H1 t1 (e.step s1) E' (ok.step s1)
    | false => exact q sg H1 t1 (e.step s1) E' (ok.step s1)
theorem gs_asg (h : ge xc te d m fun x m1 => gg xc g x d m1 E.nx) : gs xc (tAsg te g) E d m := fun sg H s e E' ok =>
  h sg H s e _ fun v H1 x m1 s1 r1 t1 q => q v sg H1 t1 (e.step s1) r1 _ fun sg' H' d' m' s2 t2 e2 q2 => ok.nx sg' H' d' m' (s1.trans s2) t2 e2 q2
theorem gs_drop (h : ge xc te d m fun _ m1 => E.nx d m1) : gs xc (tDrop te) E d m := fun sg H s e E' ok =>
  h sg H s e _ fun v H1 x m1 s1 r1 t1 q => ok.nx sg H1 d m1 s1 t1 (e.step s1) q
theorem gs_aug {i : Nat} {x : D} {ti : TIp} (hx : d[i]? = some (some x)) (h : ge xc te d m fun y m1 => g2 ti x y m1 fun z m2 => E.nx (d.set i (some z)) m2) : gs xc (tAug i te ti) E d m := fun sg H s e E' ok => by
  obtain ⟨v, h1, h2⟩ := e.get i x hx
  refine ⟨v, h1, h sg H s e _ fun u H1 y m1 s1 r1 t1 q => q H1 v u t1 (h2.step s1) r1 _ fun w H2 z m2 s2 r2 t2 q2 => ?_⟩
  exact ok.nx _ H2 _ m2 (s1.trans s2) t2 (((e.step s1).step s2).set r2 i) q2
theorem gs_par {i j : Nat} (h : ga xc aa d m fun xs m1 => ∃ x y, xs = [x, y] ∧ E.nx ((d.set i (some x)).set j (some y)) m1) : gs xc (tPar i j aa) E d m := fun sg H s e E' ok =>
  h sg H s e _ fun vs H1 xs m1 s1 r1 t1 ⟨x, y, hx, q⟩ => by
    subst hx
    cases r1 with | cons r1 r2 =>
    cases r2 with | cons r2 r3 =>
    cases r3
    exact ⟨_, _, rfl, ok.nx _ H1 _ m1 s1 t1 (((e.step s1).set r1 i).set r2 j) q⟩
/-! targets -/
theorem gg_name {i : Nat} {x : D} {Q : Dl → M → Prop} (q : Q (d.set i (some x)) m) : gg xc (gName i) x d m Q := fun v sg H s e r Q' k => k _ H _ m .refl s (e.set r i) q
theorem ggs_nil {Q : Dl → M → Prop} (q : Q d m) : ggs xc gNil [] d m Q := fun vs sg H s e r Q' k => by
  cases r
  exact ⟨rfl, k sg H d m .refl s e q⟩
theorem ggs_cons {g : TG} {gs' : TGs} {x : D} {xs : List D} {Q : Dl → M → Prop} (h : gg xc g x d m fun d1 m1 => ggs xc gs' xs d1 m1 Q) : ggs xc (gCons g gs') (x :: xs) d m Q := fun vs sg H s e r Q' k => by
  cases r with | cons r1 r2 =>
  exact ⟨_, _, rfl, h _ sg H s e r1 _ fun sg1 H1 d1 m1 s1 t1 e1 q => q _ sg1 H1 t1 e1 (r2.step s1) _ fun sg2 H2 d2 m2 s2 t2 e2 q2 => k sg2 H2 d2 m2 (s1.trans s2) t2 e2 q2⟩
theorem gg_tup {gs' : TGs} {n : Nat} {xs : List D} {Q : Dl → M → Prop} (hn : xs.length = n) (h : ggs xc gs' xs d m Q) : gg xc (gTup K n gs') (.tup xs) d m Q := fun v sg H s e r Q' k => by
  obtain ⟨a, us, rfl, ea, ra⟩ := r.tup_inv
  exact ⟨a, us, rfl, .inl (.inl ea), by rw [← ra.length]; exact hn, h us sg H s e ra Q' k⟩
/-- xs[i] = e into a cell -/
theorem gg_sub {x : D} {Q : Dl → M → Prop} (h : ge xc ta d m fun o m1 => ge xc tb d m1 fun i m2 => ∃ a k j ds n, o = .ref a ∧ i = .int k ∧ m2[j]? = some (a, MO.lst ds) ∧ ixN ds.length k = some n ∧ Q d (m2.set j (a, .lst (ds.set n x)))) : gg xc (gSub ta tb rSetL) x d m Q := fun v sg H s e r Q' k =>
  h sg H s e _ fun vo H1 o m1 s1 r1 t1 q => q sg H1 t1 (e.step s1) _ fun vi H2 i m2 s2 r2 t2 ⟨a, ki, j, ds, n, ho, hi, hm, hn, q2⟩ => by
    subst ho hi
    obtain ⟨us, ea, ra⟩ := t2.get hm
    have s12 := s1.trans s2
    refine ⟨a, us, ki, n, (r1.step s2).ref_inv, r2.int_inv, ea, by rw [← ra.length]; exact hn, ?_⟩
    exact k sg _ d _ (s12.trans (.write t2 hm)) (t2.writeL hm (ra.set (r.step s12) n)) ((e.step s12).step (.write t2 hm)) q2
/-- xs.append(e) of a cell -/
theorem ge_app (h : ge xc ta d m fun o m1 => ∃ (a : Addr) (j' : Nat) (ds' : List D), o = .ref a ∧ m1[j']? = some (a, MO.lst ds') ∧ ge xc te d m1 fun y m2 => ∃ (j : Nat) (ds : List D), m2[j]? = some (a, MO.lst ds) ∧ ds.length < 100000 ∧ Q .non (m2.set j (a, .lst (ds ++ [y])))) : ge xc (tBM K "list" rAppend ta (tCons te tNil)) d m Q := fun sg H s e Q' k =>
  h sg H s e _ fun vo H1 o m1 s1 r1 t1 ⟨a, j', ds', ho, hm1, q⟩ => by
    subst ho
    obtain ⟨us1, ea1, ra1⟩ := t1.get hm1
    refine ⟨?_, q sg H1 t1 (e.step s1) _ fun vy H2 y m2 s2 r2 t2 ⟨j, ds, hm, hl, q2⟩ => ?_⟩
    · rw [r1.ref_inv]
      exact .inl ⟨rfl, us1, .inl (.inl ea1)⟩
    · obtain ⟨us, ea, ra⟩ := t2.get hm
      have s12 := s1.trans s2
      refine ⟨a, us, vy, (r1.step s2).ref_inv, rfl, ea, by rw [← ra.length]; exact Nat.lt_trans hl (by decide), ?_⟩
      exact k _ _ .non _ (s12.trans (.write t2 hm)) .non (t2.writeL hm (ra.snoc r2)) q2
/-! while -/
theorem gs_while (W : Nat → Dl → M → Prop) (n0 : Nat) (h0 : W n0 d m)
    (hs : ∀ n d' m', W n d' m' → gt xc tt d' m' fun b m1 => if b = true then gs xc ts { E with nx := fun d2 m2 => ∃ n', n' < n ∧ W n' d2 m2, ct := fun d2 m2 => ∃ n', n' < n ∧ W n' d2 m2, bk := E.nx } d' m1 else E.nx d' m1) : gs xc (tWhile tt ts) E d m := fun sg H s e E' ok => by
  refine ⟨fun n sg' H' => ∃ d' m', Step m H m' H' ∧ MSat m' H' ∧ ESat xc d' m' sg' H' ∧ W n d' m', ⟨n0, d, m, .refl, s, e, h0⟩, fun n sg' H' ⟨d', m', s1, t1, e1, w⟩ => ?_⟩
  refine hs n d' m' w sg' H' t1 e1 _ fun b H1 m1 s2 t2 q => ?_
  cases b with
  | true =>
    refine ⟨fun sg2 H2 => ∃ d2 m2, Step m1 H1 m2 H2 ∧ MSat m2 H2 ∧ ESat xc d2 m2 sg2 H2 ∧ ∃ n', n' < n ∧ W n' d2 m2, fun sg2 H2 ⟨d2, m2, s3, t3, e3, n', hn, w'⟩ => ⟨n', hn, d2, m2, (s1.trans s2).trans s3, t3, e3, w'⟩, ?_⟩
    refine q sg' H1 t2 (e1.step s2) _ ⟨fun sg3 H3 d3 m3 s3 t3 e3 q3 => ⟨d3, m3, s3, t3, e3, q3⟩, fun v H3 x m3 s3 r3 t3 q3 => ok.rt v H3 x m3 ((s1.trans s2).trans s3) r3 t3 q3, fun sg3 H3 d3 m3 s3 t3 e3 q3 => ok.nx sg3 H3 d3 m3 ((s1.trans s2).trans s3) t3 e3 q3, fun sg3 H3 d3 m3 s3 t3 e3 q3 => ⟨d3, m3, s3, t3, e3, q3⟩⟩
  | false => exact ok.nx sg' H1 d' m1 (s1.trans s2) t2 (e1.step s2) q
/-! what is walked -/
def ItOk (J : It) (ds : List D) (m1 : M) (H1 : Hp) : Prop := ∀ (i : Nat) m' H', Step m1 H1 m' H' → MSat m' H' →
  (i < ds.length → J.go i H' ∧ ∀ v H2, J.yld i H' v H2 → ∃ x, ds[i]? = some x ∧ Step m' H' m' H2 ∧ MSat m' H2 ∧ Rep (off m') H2 x v) ∧ (i = ds.length → J.stop i H')
def gi (xc : Xc) (wi : TI) (d : Dl) (m : M) (R : List D → M → Prop) : Prop :=
  ∀ sg H, MSat m H → ESat xc d m sg H → ∀ R' : It → Hp → Prop, (∀ J H1 ds m1, Step m H m1 H1 → MSat m1 H1 → ItOk J ds m1 H1 → R ds m1 → R' J H1) → wi sg H R'
theorem gi_list {R : List D → M → Prop} (h : ge xc te d m fun x m1 => ∃ ds, x = .lst ds ∧ R ds m1) : gi xc (iList K te) d m R := fun sg H s e R' k =>
  h sg H s e _ fun v H1 x m1 s1 r1 t1 ⟨ds, hx, q⟩ => by
    subst hx
    obtain ⟨a, us, rfl, oa, ea, ra⟩ := r1.lst_inv
    refine ⟨a, rfl, ⟨us, .inl (.inl ea)⟩, k _ H1 ds m1 s1 t1 (fun i m' H' s2 t2 => ?_) q⟩
    have ea' := (s2.h2 a _ oa ea).2
    have ra' := ra.step s2
    refine ⟨fun hi => ?_, fun hi => ⟨us, .inl (.inl ea'), by rw [← ra'.length]; omega⟩⟩
    obtain ⟨x, hx⟩ : ∃ x, ds[i]? = some x := ⟨ds[i], List.getElem?_eq_getElem hi⟩
    obtain ⟨v, hv, rv⟩ := ra'.get hx
    refine ⟨⟨us, v, .inl (.inl ea'), hv⟩, fun u H2 ⟨e2, hy⟩ => ?_⟩
    subst e2
    have := hy us (.inl (.inl ea'))
    rw [hv] at this
    cases this
    exact ⟨x, hx, .refl, t2, rv⟩
theorem gi_tup {R : List D → M → Prop} (h : ge xc te d m fun x m1 => ∃ ds, x = .tup ds ∧ R ds m1) : gi xc (iTup K te) d m R := fun sg H s e R' k =>
  h sg H s e _ fun v H1 x m1 s1 r1 t1 ⟨ds, hx, q⟩ => by
    subst hx
    obtain ⟨a, us, rfl, ea, ra⟩ := r1.tup_inv
    refine ⟨a, rfl, ⟨us, .inl (.inl ea)⟩, k _ H1 ds m1 s1 t1 (fun i m' H' s2 t2 => ?_) q⟩
    have ea' := s2.tups.1 a us ea
    have ra' := ra.step s2
    refine ⟨fun hi => ?_, fun hi => ⟨us, .inl (.inl ea'), by rw [← ra'.length]; omega⟩⟩
    obtain ⟨x, hx⟩ : ∃ x, ds[i]? = some x := ⟨ds[i], List.getElem?_eq_getElem hi⟩
    obtain ⟨v, hv, rv⟩ := ra'.get hx
    refine ⟨⟨us, v, .inl (.inl ea'), hv⟩, fun u H2 ⟨e2, hy⟩ => ?_⟩
    subst e2
    have := hy us (.inl (.inl ea'))
    rw [hv] at this
    cases this
    exact ⟨x, hx, .refl, t2, rv⟩
def rgD (lo : Int) (n : Nat) : List D := (List.range n).map fun i => D.int (lo + (i : Nat))
theorem rgD_len (lo : Int) (n : Nat) : (rgD lo n).length = n := by
  unfold rgD
  rw [List.length_map, List.length_range]
theorem itr_ok {H1 : Hp} {m1 : M} (lo : Int) (n : Nat) : ItOk (Itr lo n) (rgD lo n) m1 H1 := fun i m' H' s2 t2 => by
  rw [rgD_len]
  refine ⟨fun hi => ⟨hi, fun v H2 ⟨e2, ev⟩ => ?_⟩, fun hi => Nat.le_of_eq hi.symm⟩
  subst e2 ev
  refine ⟨.int (lo + (i : Nat)), ?_, .refl, t2, .int _⟩
  unfold rgD
  rw [List.getElem?_map, List.getElem?_range hi]
  rfl
theorem gi_range1 {R : List D → M → Prop} (h : ga xc aa d m fun xs m1 => ∃ n : Int, xs = [.int n] ∧ -(2 ^ 62) ≤ n ∧ n < 2 ^ 62 ∧ R (rgD 0 n.toNat) m1) : gi xc (iRng1 aa) d m R := fun sg H s e R' k =>
  h sg H s e _ fun vs H1 xs m1 s1 r1 t1 ⟨n, hx, h1, h2, q⟩ => by
    subst hx
    cases r1 with | cons r1 r2 =>
    cases r2
    rw [r1.int_inv]
    exact ⟨n, rfl, h1, h2, k _ H1 _ m1 s1 t1 (itr_ok 0 n.toNat) q⟩
theorem gi_range2 {R : List D → M → Prop} (h : ga xc aa d m fun xs m1 => ∃ lo n : Int, xs = [.int lo, .int n] ∧ (-(2 ^ 62) ≤ lo ∧ lo < 2 ^ 62 ∧ -(2 ^ 62) ≤ n ∧ n < 2 ^ 62) ∧ R (rgD lo (n - lo).toNat) m1) : gi xc (iRng2 aa) d m R := fun sg H s e R' k =>
  h sg H s e _ fun vs H1 xs m1 s1 r1 t1 ⟨lo, n, hx, h1, q⟩ => by
    subst hx
    cases r1 with | cons r1 r2 =>
    cases r2 with | cons r2 r3 =>
    cases r3
    rw [r1.int_inv, r2.int_inv]
    exact ⟨lo, n, rfl, h1, k _ H1 _ m1 s1 t1 (itr_ok lo (n - lo).toNat) q⟩
/-! for -/
def gfor (xc : Xc) (g : TG) (tb : TS) (E : De) : List D → Dl → M → Prop
  | [], d, m => E.nx d m
  | x :: r, d, m => gg xc g x d m fun d2 m2 => gs xc tb { E with nx := gfor xc g tb E r, ct := gfor xc g tb E r, bk := E.nx } d2 m2
theorem gs_for {wi : TI} (h : gi xc wi d m fun ds m1 => gfor xc g ts E ds d m1) : gs xc (tFor wi g ts) E d m := fun sg H s e E' ok =>
  h sg H s e _ fun J H1 ds m1 s1 t1 it q => by
    refine ⟨fun i n sg' H' => ∃ d' m', Step m1 H1 m' H' ∧ MSat m' H' ∧ ESat xc d' m' sg' H' ∧ i + n = ds.length ∧ gfor xc g ts E (ds.drop i) d' m', ⟨ds.length, d, m1, .refl, t1, e.step s1, by omega, q⟩, fun i n sg' H' ⟨d', m', s2, t2, e2, hn, w⟩ => ?_⟩
    obtain ⟨i1, i2⟩ := it i m' H' s2 t2
    by_cases hi : i < ds.length
    · obtain ⟨go, yl⟩ := i1 hi
      refine .inr ⟨go, fun sg3 H3 => ∃ d3 m3, Step m' H' m3 H3 ∧ MSat m3 H3 ∧ ESat xc d3 m3 sg3 H3 ∧ gfor xc g ts E (ds.drop (i + 1)) d3 m3, fun sg3 H3 ⟨d3, m3, s3, t3, e3, w3⟩ => ⟨n - 1, by omega, d3, m3, s2.trans s3, t3, e3, by omega, w3⟩, fun v H2 hy => ?_⟩
      obtain ⟨x, hx, sy, ty, rv⟩ := yl v H2 hy
      have hd : ds.drop i = x :: ds.drop (i + 1) := by
        rw [List.drop_eq_getElem_cons hi]
        rw [List.getElem?_eq_getElem hi] at hx
        rw [Option.some.inj hx]
      rw [hd] at w
      refine w v sg' H2 ty (e2.step sy) rv _ fun sg4 H4 d4 m4 s4 t4 e4 q4 => ?_
      refine q4 sg4 H4 t4 e4 _ ⟨fun sg5 H5 d5 m5 s5 t5 e5 q5 => ⟨d5, m5, (sy.trans s4).trans s5, t5, e5, q5⟩, fun v H5 x m5 s5 r5 t5 q5 => ok.rt v H5 x m5 ((s1.trans s2).trans ((sy.trans s4).trans s5)) r5 t5 q5, fun sg5 H5 d5 m5 s5 t5 e5 q5 => ok.nx sg5 H5 d5 m5 ((s1.trans s2).trans ((sy.trans s4).trans s5)) t5 e5 q5, fun sg5 H5 d5 m5 s5 t5 e5 q5 => ⟨d5, m5, (sy.trans s4).trans s5, t5, e5, q5⟩⟩
    · have e0 : i = ds.length := by omega
      refine .inl ⟨i2 e0, ?_⟩
      rw [e0, List.drop_length] at w
      exact ok.nx sg' H' d' m' (s1.trans s2) t2 e2 w
/-- by an invariant over what is left -/
theorem gfor_inv (P : Nat → Dl → M → Prop) (ds : List D) (hs : ∀ (i : Nat) x d m, ds[i]? = some x → P i d m → gg xc g x d m fun d2 m2 => gs xc ts { E with nx := P (i + 1), ct := P (i + 1), bk := E.nx } d2 m2)
    (hd : ∀ d m, P ds.length d m → E.nx d m) (h0 : P 0 d m) : gfor xc g ts E ds d m := by
  have mono : ∀ {E1 E2 : De} {t : TS} {d m}, gs xc t E1 d m → (∀ d m, E1.nx d m → E2.nx d m) → (∀ x m, E1.rt x m → E2.rt x m) → (∀ d m, E1.bk d m → E2.bk d m) → (∀ d m, E1.ct d m → E2.ct d m) → gs xc t E2 d m := fun h a b c f sg H s e E' ok =>
    h sg H s e E' ⟨fun sg' H' d' m' s1 t1 e1 q => ok.nx sg' H' d' m' s1 t1 e1 (a _ _ q), fun v H' x m' s1 r1 t1 q => ok.rt v H' x m' s1 r1 t1 (b _ _ q), fun sg' H' d' m' s1 t1 e1 q => ok.bk sg' H' d' m' s1 t1 e1 (c _ _ q), fun sg' H' d' m' s1 t1 e1 q => ok.ct sg' H' d' m' s1 t1 e1 (f _ _ q)⟩
  have all : ∀ (k i : Nat), i + k = ds.length → ∀ d m, P i d m → gfor xc g ts E (ds.drop i) d m := by
    intro k
    induction k with
    | zero =>
      intro i hi d m p
      have e0 : i = ds.length := by omega
      subst e0
      rw [List.drop_length]
      exact hd d m p
    | succ k ih =>
      intro i hi d m p
      have hl : i < ds.length := by omega
      rw [List.drop_eq_getElem_cons hl]
      have h := hs i ds[i] d m (List.getElem?_eq_getElem hl) p
      intro v sg H s e r Q' kk
      refine h v sg H s e r Q' fun sg' H' d' m' s1 t1 e1 q => kk sg' H' d' m' s1 t1 e1 ?_
      exact mono q (fun d m => ih (i + 1) (by omega) d m) (fun _ _ z => z) (fun _ _ z => z) (fun d m => ih (i + 1) (by omega) d m)
  have := all ds.length 0 (by omega) d m h0
  rwa [List.drop_zero] at this
/-! comprehensions -/
def GW (g : TG) (vs : List Nat) : Prop := ∀ v sg H Q, g v sg H Q → g v sg H fun sg' H' => wipe sg' vs = wipe sg vs ∧ Q sg' H'
def glc (xc : Xc) (g : TG) (tt : TT) (te : TE) (d : Dl) (p : Addr) (R : List D → M → Prop) : List D → List D → M → Prop
  | [], acc, m => R acc m
  | x :: r, acc, m => gg xc g x d ((p, .lst acc) :: m) fun d2 m2 => gt xc tt d2 m2 fun b m3 => if b = true then ge xc te d2 m3 fun y m4 => ∃ m', m4 = (p, .lst acc) :: m' ∧ acc.length < 100000 ∧ glc xc g tt te d p R r (acc ++ [y]) m' else ∃ m', m3 = (p, .lst acc) :: m' ∧ glc xc g tt te d p R r acc m'
theorem lc_all {wi : TI} {vs : List Nat} {R : Addr → List D → M → Prop} (hg : GW g vs) (h : gi xc wi d m fun ds m1 => ∀ p, p ∉ dom m1 → glc xc g tt te (wipeD d vs) p (R p) ds [] m1)
    (hR : ∀ H H' p acc m1, MSat m H → Step m H ((p, .lst acc) :: m1) H' → MSat ((p, .lst acc) :: m1) H' → R p acc m1 → ∀ Q' : VK, (∀ v H' x m', Step m H m' H' → Rep (off m') H' x v → MSat m' H' → Q x m' → Q' v H') → Q' (.ref p) H') : ge xc (tLc wi g tt te vs) d m Q := fun sg H s e Q' k =>
  h sg H s e _ fun J H1 ds m1 s1 t1 it q => by
    intro p np
    have q := q p (t1.off_new np)
    have c1 : Step m1 H1 ((p, MO.lst []) :: m1) (upd H1 p (.lst [])) := .cell np
    refine ⟨fun i n H' => ∃ acc m', Step m1 H1 ((p, MO.lst acc) :: m') H' ∧ MSat ((p, MO.lst acc) :: m') H' ∧ i + n = ds.length ∧ glc xc g tt te (wipeD d vs) p (R p) (ds.drop i) acc m', ⟨ds.length, [], m1, c1, t1.cell np .nil, by omega, q⟩, fun i n H' ⟨acc, m', s2, t2, hn, w⟩ => ?_⟩
    obtain ⟨i1, i2⟩ := it i _ H' s2 t2
    by_cases hi : i < ds.length
    · obtain ⟨go, yl⟩ := i1 hi
      refine .inr ⟨go, fun H3 => ∃ acc m', Step m1 H1 ((p, MO.lst acc) :: m') H3 ∧ MSat ((p, MO.lst acc) :: m') H3 ∧ glc xc g tt te (wipeD d vs) p (R p) (ds.drop (i + 1)) acc m', fun H3 ⟨acc, m', s3, t3, w3⟩ => ⟨n - 1, by omega, acc, m', s3, t3, by omega, w3⟩, fun v H2 hy => ?_⟩
      obtain ⟨x, hx, sy, ty, rv⟩ := yl v H2 hy
      have hd : ds.drop i = x :: ds.drop (i + 1) := by
        rw [List.drop_eq_getElem_cons hi]
        rw [List.getElem?_eq_getElem hi] at hx
        rw [Option.some.inj hx]
      rw [hd] at w
      have sA := s2.trans sy
      have eA := ((e.step s1).wipe vs).step sA
      have h1 := w v (wipe sg vs) H2 ty eA rv _ fun sg4 H4 d4 m4 s4 t4 e4 q4 => (show (fun sg2 H2 => tt sg2 H2 fun b H3 => if b = true then te sg2 H3 fun y H4 => ∃ acc, H4 p = some (.lst acc) ∧ acc.length < sizeLine ∧ (fun H3 => ∃ acc m', Step m1 H1 ((p, MO.lst acc) :: m') H3 ∧ MSat ((p, MO.lst acc) :: m') H3 ∧ glc xc g tt te (wipeD d vs) p (R p) (ds.drop (i + 1)) acc m') (upd H4 p (.lst (acc ++ [y]))) else (fun H3 => ∃ acc m', Step m1 H1 ((p, MO.lst acc) :: m') H3 ∧ MSat ((p, MO.lst acc) :: m') H3 ∧ glc xc g tt te (wipeD d vs) p (R p) (ds.drop (i + 1)) acc m') H3) sg4 H4 from
        q4 sg4 H4 t4 e4 _ fun b H5 m5 s5 t5 q5 => by
          cases b with
          | true =>
            refine q5 sg4 H5 t5 (e4.step s5) _ fun y H6 z m6 s6 r6 t6 ⟨m7, e7, hl, q7⟩ => ?_
            subst e7
            obtain ⟨us, eu, ru⟩ := t6.all _ List.mem_cons_self
            have w6 : Step ((p, MO.lst acc) :: m7) H6 ((p, MO.lst (acc ++ [z])) :: m7) (upd H6 p (.lst (us ++ [y]))) := Step.write (j := 0) t6 rfl
            exact ⟨us, eu, by rw [← ru.length]; exact Nat.lt_trans hl (by decide), acc ++ [z], m7, (((sA.trans s4).trans s5).trans s6).trans w6, MSat.writeL (j := 0) t6 rfl (ru.snoc r6), q7⟩
          | false =>
            obtain ⟨m7, e7, q7⟩ := q5
            subst e7
            exact ⟨acc, m7, (sA.trans s4).trans s5, t5, q7⟩)
      have h2 := hg v (wipe sg vs) H2 _ h1
      have ew : wipe (wipe sg vs) vs = wipe sg vs := by
        clear h2 h1 eA
        have one : ∀ (v : Nat) (ws : List Nat) (τ : L2.St), v ∈ ws → (wipe τ ws).set v none = wipe τ ws := by
          intro v ws
          induction ws with
          | nil => intro τ hv; cases hv
          | cons a ws ih =>
            intro τ hv
            show ((wipe τ ws).set a none).set v none = (wipe τ ws).set a none
            by_cases ha : v = a
            · subst ha
              rw [List.set_set]
            · rw [List.set_comm _ _ (Ne.symm ha), ih τ ((List.mem_cons.mp hv).resolve_left ha)]
        have all : ∀ (ws us : List Nat) (τ : L2.St), (∀ v ∈ ws, v ∈ us) → wipe (wipe τ us) ws = wipe τ us := by
          intro ws
          induction ws with
          | nil => intro us τ _; rfl
          | cons a ws ih =>
            intro us τ h
            show (wipe (wipe τ us) ws).set a none = wipe τ us
            rw [ih us τ fun v hv => h v (List.mem_cons_of_mem _ hv), one a us τ (h a List.mem_cons_self)]
        exact all vs vs sg fun _ h => h
      rw [ew] at h2
      exact h2
    · have e0 : i = ds.length := by omega
      refine .inl ⟨i2 e0, ?_⟩
      rw [e0, List.drop_length] at w
      exact hR H H' p acc m' s (s1.trans s2) t2 w Q' k
theorem ge_lc {wi : TI} {vs : List Nat} (hg : GW g vs) (h : gi xc wi d m fun ds m1 => ∀ p, p ∉ dom m1 → glc xc g tt te (wipeD d vs) p (fun acc m' => Q (.lst acc) m') ds [] m1) : ge xc (tLc wi g tt te vs) d m Q :=
  lc_all (R := fun _ acc m' => Q (.lst acc) m') hg h fun H H' p acc m1 s st t q Q' k => k _ H' _ m1 (st.trans .drop1) (.freeze t) t.drop1 q
/-- the new list a cell -/
theorem ge_lcM {wi : TI} {vs : List Nat} (hg : GW g vs) (h : gi xc wi d m fun ds m1 => ∀ p, p ∉ dom m1 → glc xc g tt te (wipeD d vs) p (fun acc m' => Q (.ref p) ((p, .lst acc) :: m')) ds [] m1) : ge xc (tLc wi g tt te vs) d m Q :=
  lc_all (R := fun p acc m' => Q (.ref p) ((p, .lst acc) :: m')) hg h fun H H' p acc m1 s st t q Q' k => k _ H' _ _ st (.ref p) t q
theorem gt_yes {Q : Bool → M → Prop} (q : Q true m) : gt xc tYes d m Q := fun sg H s e Q' k => k _ H m .refl s q
theorem gw_name {i : Nat} {vs : List Nat} (h : i ∈ vs) : GW (gName i) vs := fun v sg H Q q => ⟨by
  have one : ∀ (ws : List Nat), i ∈ ws → wipe (sg.set i (some v)) ws = wipe sg ws := by
    intro ws
    induction ws with
    | nil => intro hv; cases hv
    | cons a ws ih =>
      intro hv
      show (wipe (sg.set i (some v)) ws).set a none = (wipe sg ws).set a none
      by_cases hm : i ∈ ws
      · rw [ih hm]
      · have ha : i = a := (List.mem_cons.mp hv).resolve_right hm
        subst ha
        have hn : ∀ (us : List Nat), i ∉ us → wipe (sg.set i (some v)) us = (wipe sg us).set i (some v) := by
          intro us
          induction us with
          | nil => intro _; rfl
          | cons b us ih2 =>
            intro hu
            show (wipe (sg.set i (some v)) us).set b none = ((wipe sg us).set b none).set i (some v)
            rw [ih2 fun z => hu (List.mem_cons_of_mem _ z), List.set_comm _ _ (fun z => hu (by rw [z]; exact List.mem_cons_self))]
        rw [hn ws hm, List.set_set]
  exact one vs h, q⟩
end

/-! ### defs -/
abbrev TD := List D → M → (D → M → Prop) → XD → Prop
def spOf (T : TD) : Sp := fun vs H Q Ex => ∃ ds m Q0 X0, Reps (off m) H ds vs ∧ MSat m H ∧ T ds m Q0 X0 ∧ (∀ v H' z m', Step m H m' H' → Rep (off m') H' z v → MSat m' H' → Q0 z m' → Q v H') ∧ XOk ⟨X0, Ex⟩ m H
section
variable {xc : Xc} {d : Dl} {m : M} {Q : D → M → Prop} {aa : TA}
abbrev xc0 : Xc := ⟨fun _ _ _ => False, E0⟩
theorem xok0 {H : Hp} : XOk xc0 m H := fun _ _ _ _ _ _ _ _ h => h.elim
/-- a call; dds: the defaults' data -/
theorem ge_call {T : TD} {dvs : List V} {dds : List D} (hd : ∀ ok H, Reps ok H dds dvs) (h : ga xc aa d m fun xs m1 => T (xs ++ dds) m1 Q xc.X0) : ge xc (tCall (spOf T) dvs xc.Ex aa) d m Q := fun sg H s e Q' k =>
  h sg H s e _ fun vs H1 xs m1 s1 r1 t1 q => ⟨xs ++ dds, m1, Q, xc.X0, r1.append (hd _ _), t1, q, fun v H' z m' s2 r2 t2 q2 => k v H' z m' (s1.trans s2) r2 t2 q2, e.xk.step s1⟩
theorem ge_call0 {T : TD} (h : ga xc aa d m fun xs m1 => T xs m1 Q xc.X0) : ge xc (tCall (spOf T) [] xc.Ex aa) d m Q :=
  ge_call (dds := []) (fun _ _ => .nil) (by
    have e : ∀ xs : List D, xs ++ [] = xs := List.append_nil
    simpa only [e] using h)
def startD (n : Nat) (ds : List D) : Dl := ds.map some ++ List.replicate (n - ds.length) none
theorem esat_start {N : List Str} {ds : List D} {vs : List V} {H : Hp} (r : Reps (off m) H ds vs) (xk : XOk xc m H) : ESat xc (startD N.length ds) m (L2.start N vs) H := by
  refine ⟨xk, ?_, fun i x h => ?_⟩
  · unfold startD L2.start
    rw [List.length_append, List.length_append, List.length_map, List.length_map, List.length_replicate, List.length_replicate, r.length]
  · unfold startD at h
    by_cases hi : i < ds.length
    · rw [List.getElem?_append_left (by rw [List.length_map]; exact hi), List.getElem?_map, List.getElem?_eq_getElem hi] at h
      have hx : ds[i]? = some x := by
        rw [List.getElem?_eq_getElem hi]
        exact Option.some.inj h
      obtain ⟨v, hv, rv⟩ := r.get hx
      refine ⟨v, ?_, rv⟩
      unfold L2.start
      rw [List.getElem?_append_left (by rw [List.length_map, ← r.length]; exact hi), List.getElem?_map, hv]
      rfl
    · rw [List.getElem?_append_right (by rw [List.length_map]; omega)] at h
      have := List.mem_of_getElem? h
      rw [List.mem_replicate] at this
      cases this.2
end
section
variable {P : Program} {w : World} {K : PySem.W.Frag} {mg : Str → Option Value} {base : Heap}
/-- a def that raises nothing -/
theorem fn_ok {x qual : Str} {st : Stmt} {f : Addr} {fd : FuncData} {N ps : List Str} {k : Nat} {T : TD} {n : Nat} (hn : N.length = n) (F : Fun K x qual st f fd) (S : FnScope N ps (defScope st)) (len : ∀ ds m Q X0, T ds m Q X0 → ds.length = ps.length)
    (hbody : ∀ (cdv : Value) (A : Around) (outer : List Env) (s : Shared) (H : Hp) (E : XK), Room k (A.deeper (envOfC qual (defScope st) s.heap.objs.size f cdv)) →
      ∃ t, PSs (cxOf CX0 P w K mg base N qual (defScope st) f cdv A outer s H E).nox (defBody st) t ∧ ∀ ds m Q X0, T ds m Q X0 → gs xc0 t { nx := fun _ m' => Q .non m', rt := Q } (startD n ds) m) : FnOk P w K mg base CX0 (k + 1) f fd ps (spOf T) := by
  subst hn
  refine F.ok S (fun vs H Q E ⟨ds, m, Q0, X0, r, t, h, _⟩ => by rw [← r.length]; exact len _ _ _ _ h) fun cdv A outer s H vs Q E hr ⟨ds, m, Q0, X0, r, t, h, hq, _⟩ => ?_
  obtain ⟨tm, pt, hg⟩ := hbody cdv A outer s H E hr
  refine ⟨tm, pt, hg ds m Q0 X0 h (L2.start N vs) H t (esat_start r xok0) _ ⟨fun sg' H' d' m' s1 t1 e1 q => hq _ H' _ m' s1 .non t1 q, fun v H' z m' s1 r1 t1 q => hq v H' z m' s1 r1 t1 q, fun _ _ _ _ _ _ _ q => q.elim, fun _ _ _ _ _ _ _ q => q.elim⟩⟩
end
end Gd

namespace Gd
open PySem PySem.Spec PyProof.Rows L2

/-! ### rules for several kinds at once -/
def rAddP (K : PySem.W.Frag) : R2 := fun x y H Q => (rI0 fun i j => .int (i + j)) x y H Q ∨ (fun x y H Q => (fun x y H Q => ∃ i j, x = .str i ∧ y = .str j ∧ i.length + j.length ≤ sizeLine ∧ Q (.str (i ++ j)) H) x y H Q ∨ (fun x y H Q => rCat x y H Q ∨ rCatT K x y H Q) x y H Q) x y H Q
def rMulP : R2 := fun x y H Q => (rI CMul fun i j => .int (i * j)) x y H Q ∨ rRep x y H Q
section
variable {X : Cx}
theorem op_addP : OpR X (binaryOp .Add) (rAddP X.K) := op_add.or (op_add_str.or (op_cat.or op_catT))
theorem op_mulP : OpR X (binaryOp .Mult) rMulP := op_mul.or op_rep
theorem op_fdivP : OpR X (binaryOp .FloorDiv) (rI CDivN fun i j => .int (i.fdiv j)) := op_fdivN
theorem pe_globI {x : Str} {i : Int} {pos : Pos} (hg : Gl X x) (hm : ∃ t, X.mg x = some (.int i t)) (hd : (x == ("__debug__" : Str)) = false := by decide) : PE X (.Name x pos) (tC (.int i)) :=
  let ⟨t, h⟩ := hm
  pe_glob hg h ⟨t, rfl⟩ hd
theorem pe_globS {x : Str} {i : Str} {pos : Pos} (hg : Gl X x) (hm : ∃ t, X.mg x = some (.str i t)) (hd : (x == ("__debug__" : Str)) = false := by decide) : PE X (.Name x pos) (tC (.str i)) :=
  let ⟨t, h⟩ := hm
  pe_glob hg h ⟨t, rfl⟩ hd
end
section
variable {m : M} {Q : D → M → Prop} {i j : Int} {K : PySem.W.Frag} {xs ys : List D}
theorem g2_addI (q : Q (.int (i + j)) m) : g2 (rAddP K) (.int i) (.int j) m Q := g2_l (g2_int (g := fun i j => i + j) q)
theorem g2_addS {a b : Str} (h : a.length + b.length ≤ sizeLine) (q : Q (.str (a ++ b)) m) : g2 (rAddP K) (.str a) (.str b) m Q := g2_r (g2_l (g2_str h q))
theorem g2_addL (h : xs.length + ys.length ≤ sizeLine) (q : Q (.lst (xs ++ ys)) m) : g2 (rAddP K) (.lst xs) (.lst ys) m Q := g2_r (g2_r (g2_l (g2_cat h q)))
theorem g2_addLM (h : xs.length + ys.length ≤ sizeLine) (q : ∀ p, p ∉ dom m → Q (.ref p) ((p, .lst (xs ++ ys)) :: m)) : g2 (rAddP K) (.lst xs) (.lst ys) m Q := g2_r (g2_r (g2_l (g2_catM h q)))
theorem g2_mulI (c : CMul i j) (q : Q (.int (i * j)) m) : g2 rMulP (.int i) (.int j) m Q := g2_l (g2_intC (g := fun i j => i * j) c q)
theorem g2_fdiv (c : CDivN i j) (q : Q (.int (i.fdiv j)) m) : g2 (rI CDivN fun i j => .int (i.fdiv j)) (.int i) (.int j) m Q := g2_intC (g := fun i j => i.fdiv j) c q
theorem g2_mod (c : j ≠ 0) (q : Q (.int (i.fmod j)) m) : g2 (rI (fun _ j => j ≠ 0) fun i j => .int (i.fmod j)) (.int i) (.int j) m Q := g2_intC (C := fun _ j => j ≠ 0) (g := fun i j => i.fmod j) c q
theorem g2_pow (c : CPow i j) (q : Q (.int (i ^ j.toNat)) m) : g2 (rI CPow fun i j => .int (i ^ j.toNat)) (.int i) (.int j) m Q := g2_intC (g := fun i j => i ^ j.toNat) c q
theorem g2_ixPL {ds : List D} {z : D} (h : atI ds i = some z) (q : Q z m) : g2 (rIx K) (.lst ds) (.int i) m Q := g2_l (g2_ixL h q)
theorem g2_ixPT {ds : List D} {z : D} (h : atI ds i = some z) (q : Q z m) : g2 (rIx K) (.tup ds) (.int i) m Q := g2_r (g2_l (g2_ixT h q))
theorem g2_ixPM {a : Addr} {j : Nat} {ds : List D} {z : D} (hm : m[j]? = some (a, .lst ds)) (h : atI ds i = some z) (q : Q z m) : g2 (rIx K) (.ref a) (.int i) m Q := g2_l (g2_ixM hm h q)
theorem g2_ixPS {ns : List Int} {n : Int} (h : atI ns i = some n) (q : Q (.int n) m) : g2 (rIx K) (.scr K ns) (.int i) m Q := g2_l (g2_ixS h q)
end

/-! ### tests -/
section
variable {b : Bool} {p A B : Prop}
theorem ite_t (e : b = true) (h : A) : if b = true then A else B := by rw [if_pos e]; exact h
theorem ite_f (e : b = false) (h : B) : if b = true then A else B := by rw [if_neg (by rw [e]; decide)]; exact h
theorem ite_b (h1 : b = true → A) (h2 : b = false → B) : if b = true then A else B := by
  cases b with
  | true => exact ite_t rfl (h1 rfl)
  | false => exact ite_f rfl (h2 rfl)
theorem ite_dec [Decidable p] (h1 : p → A) (h2 : ¬ p → B) : if decide p = true then A else B := ite_b (fun e => h1 (of_decide_eq_true e)) fun e => h2 (of_decide_eq_false e)
theorem ite_yes [Decidable p] (e : p) (h : A) : if decide p = true then A else B := ite_t (decide_eq_true e) h
theorem ite_no [Decidable p] (e : ¬ p) (h : B) : if decide p = true then A else B := ite_f (decide_eq_false e) h
theorem ite_not (h : if b = true then B else A) : if (!b) = true then A else B := by
  cases b with
  | true => exact h
  | false => exact h
end
theorem deq_int (i j : Int) : deq (.int i) (.int j) = decide (i = j) := by
  show (i == j) = decide (i = j)
  exact Bool.beq_eq_decide_eq i j

/-! ### defs with defaults -/
section
variable {P : Program} {w : World} {K : PySem.W.Frag} {mg : Str → Option Value} {base : Heap}
theorem fn_okD {x qual : Str} {params : Arguments} {body : List Stmt} {scope : Scope} {dvs : List V} {kws : List (Str × V)} {f : Addr} {fd : FuncData} {N ps : List Str} {k : Nat} {T : TD} {n : Nat} (hn : N.length = n) (F : FunD K x qual params body scope dvs kws f fd) (S : FnScope N ps scope) (len : ∀ ds m Q X0, T ds m Q X0 → ds.length = ps.length)
    (hbody : ∀ (cdv : Value) (A : Around) (outer : List Env) (s : Shared) (H : Hp) (E : XK), Room k (A.deeper (envOfC qual scope s.heap.objs.size f cdv)) →
      ∃ t, PSs (cxOf CX0 P w K mg base N qual scope f cdv A outer s H E).nox body t ∧ ∀ ds m Q X0, T ds m Q X0 → gs xc0 t { nx := fun _ m' => Q .non m', rt := Q } (startD n ds) m) : FnOk P w K mg base CX0 (k + 1) f fd ps (spOf T) := by
  subst hn
  refine F.ok S (fun vs H Q E ⟨ds, m, Q0, X0, r, t, h, _⟩ => by rw [← r.length]; exact len _ _ _ _ h) fun cdv A outer s H vs Q E hr ⟨ds, m, Q0, X0, r, t, h, hq, _⟩ => ?_
  obtain ⟨tm, pt, hg⟩ := hbody cdv A outer s H E hr
  refine ⟨tm, pt.nox, hg ds m Q0 X0 h (L2.start N vs) H t (esat_start r xok0) _ ⟨fun sg' H' d' m' s1 t1 e1 q => hq _ H' _ m' s1 .non t1 q, fun v H' z m' s1 r1 t1 q => hq v H' z m' s1 r1 t1 q, fun _ _ _ _ _ _ _ q => q.elim, fun _ _ _ _ _ _ _ q => q.elim⟩⟩
end

/-! ### the law's own promise -/
def T_law (K : PySem.W.Frag) : TD := fun ds m Q _ => ∃ ns : List Int, ds = [.scr K ns] ∧ ns.length ≤ 63 ∧ m = [] ∧ ∀ m', Q (.bl true) m'
theorem law_start {K : PySem.W.Frag} {H : Hp} {a : Addr} {ns : List Int} (hl : ns.length ≤ 63) (hO : Only H) (hS : SqL K H a (ns.map V.int)) : spOf (T_law K) [.ref a] H (fun v _ => v = .bl true) fun _ _ _ => False := by
  refine ⟨[.scr K ns], [], fun z _ => z = .bl true, fun _ _ _ => False, .cons (.scr ?_) .nil, ⟨List.nodup_nil, fun _ h => nomatch h⟩, ⟨ns, rfl, hl, rfl, fun _ => rfl⟩, fun v H' z m' _ r _ q => ?_, fun _ _ _ _ _ _ _ _ h => h.elim⟩
  · rcases hS with (h | h) | h
    · rcases hO a with e | ⟨o, xs, e⟩
      · rw [e] at h; cases h
      · rw [e] at h; cases h
    · exact .inl h
    · exact .inr (.inr h)
  · subst q
    exact r.bl_inv

/-! ### numbers that may be None -/
@[reducible] def oi : Option Int → D
  | none => .non
  | some i => .int i
theorem shO (n : Nat) (x : Option Int) : Sh n (oi x) := by
  cases x with
  | none => exact .non n
  | some i => exact .int n i
end Gd

namespace Gd
open PySem PySem.Spec PyProof.Rows L2
theorem ex_bl {b : Bool} {Q : Bool → Prop} (q : Q b) : ∃ b', D.bl b = D.bl b' ∧ Q b' := ⟨b, rfl, q⟩
theorem sz_and {xs : List D} {B : Prop} (h : xs.length ≤ 100000) (b : B) : xs.length ≤ 100000 ∧ B := ⟨h, b⟩

theorem g2_ip {m : M} {Q : D → M → Prop} {f : Int → Int → Int} {i j : Int} (q : Q (.int (f i j)) m) : g2 (ipI f) (.int i) (.int j) m Q := fun H vx vy s r1 r2 Q' k => by
  rw [r1.int_inv, r2.int_inv]
  exact ⟨i, j, rfl, rfl, k _ H _ m .refl (.int _) s q⟩
/-! ### cells that are dropped or frozen -/
inductive Fz : D → M → D → M → Prop
  | refl (x : D) (m : M) : Fz x m x m
  | drop {x y : D} {p : Addr} {o : MO} {m m' : M} : Fz x m y m' → Fz x ((p, o) :: m) y m'
  | frz {y : D} {p : Addr} {ds : List D} {m m' : M} : Fz (.lst ds) m y m' → Fz (.ref p) ((p, .lst ds) :: m) y m'
theorem Fz.ok {x y : D} {m m' : M} (f : Fz x m y m') : ∀ {H : Hp} {v : V}, MSat m H → Rep (off m) H x v → MSat m' H ∧ Rep (off m') H y v ∧ Step m H m' H := by
  induction f with
  | refl x m => exact fun s r => ⟨s, r, .refl⟩
  | drop f ih =>
    intro H v s r
    obtain ⟨a, b, c⟩ := ih s.drop1 (r.step .drop1)
    exact ⟨a, b, Step.drop1.trans c⟩
  | frz f ih =>
    intro H v s r
    rw [r.ref_inv]
    obtain ⟨a, b, c⟩ := ih s.drop1 (.freeze s)
    exact ⟨a, b, Step.drop1.trans c⟩
section
variable {xc : Xc} {d : Dl} {m : M} {Q : D → M → Prop} {E : De} {te : TE} {ts : TS} {g : TG} {aa : TA}
theorem ge_fz (h : ge xc te d m fun x m1 => ∃ y m2, Fz x m1 y m2 ∧ Q y m2) : ge xc te d m Q := fun sg H s e Q' k =>
  h sg H s e Q' fun v H' x m1 s1 r1 t1 ⟨y, m2, f, q⟩ => by
    obtain ⟨a, b, c⟩ := f.ok t1 r1
    exact k v H' y m2 (s1.trans c) b a q
/-- return, cells forgotten -/
theorem gs_retZ (h : ge xc te d m fun x m1 => ∃ y m2, Fz x m1 y m2 ∧ E.rt y m2) : gs xc (tRet te) E d m := gs_ret (ge_fz h)
/-- the slot that holds the first cell's list: the list becomes data -/
theorem gs_frz {i : Nat} {p : Addr} {ds : List D} (hi : d[i]? = some (some (.ref p))) (h : gs xc ts E (d.set i (some (.lst ds))) m) : gs xc ts E d ((p, .lst ds) :: m) := fun sg H s e E' ok => by
  obtain ⟨v, hv, r⟩ := e.get i _ hi
  have hl : i < sg.length := (List.getElem?_eq_some_iff.mp hv).1
  have e2 := (e.step .drop1).set (.freeze s) i
  have es : sg.set i (some (.ref p)) = sg := by
    rw [r.ref_inv] at hv
    apply List.ext_getElem?
    intro k
    by_cases z : i = k
    · subst z
      exact (List.getElem?_set_self hl).trans hv.symm
    · exact List.getElem?_set_ne z
  rw [es] at e2
  exact h sg H s.drop1 e2 E' (ok.step .drop1)
theorem gs_drop1 {p : Addr} {o : MO} (h : gs xc ts E d m) : gs xc ts E d ((p, o) :: m) := fun sg H s e E' ok => h sg H s.drop1 (e.step .drop1) E' (ok.step .drop1)
theorem ge_appH {ta : TE} {K : PySem.W.Frag} (h : ge xc ta d m fun o m1 => ∃ p ds m2, o = .ref p ∧ m1 = (p, MO.lst ds) :: m2 ∧ ge xc te d ((p, MO.lst ds) :: m2) fun y m3 => ∃ ds' m4, m3 = (p, MO.lst ds') :: m4 ∧ ds'.length < 100000 ∧ Q .non ((p, MO.lst (ds' ++ [y])) :: m4)) : ge xc (tBM K "list" rAppend ta (tCons te tNil)) d m Q :=
  ge_app (h.mono fun o m1 ⟨p, ds, m2, e1, e2, h2⟩ => ⟨p, 0, ds, e1, by rw [e2]; rfl, by
    rw [e2]
    exact h2.mono fun y m3 ⟨ds', m4, e3, hl, q⟩ => ⟨0, ds', by rw [e3]; rfl, hl, by rw [e3]; exact q⟩⟩)
theorem ex_cell {a : Addr} {x : List D} {m : M} {Q : Addr → List D → M → Prop} (q : Q a x m) : ∃ p ds m2, D.ref a = D.ref p ∧ ((a, MO.lst x) :: m : M) = (p, MO.lst ds) :: m2 ∧ Q p ds m2 := ⟨_, _, _, rfl, rfl, q⟩
theorem ex_cell2 {p : Addr} {x : List D} {m : M} {Q : List D → M → Prop} (h : x.length < 100000) (q : Q x m) : ∃ ds m2, ((p, MO.lst x) :: m : M) = (p, MO.lst ds) :: m2 ∧ ds.length < 100000 ∧ Q ds m2 := ⟨_, _, rfl, h, q⟩
theorem g2_ixPH {K : PySem.W.Frag} {a : Addr} {i : Int} {ds : List D} {z : D} {m : M} (h : atI ds i = some z) (q : Q z ((a, .lst ds) :: m)) : g2 (rIx K) (.ref a) (.int i) ((a, .lst ds) :: m) Q := g2_ixPM (j := 0) rfl h q
theorem gc_lenH {K : PySem.W.Frag} {a : Addr} {ds : List D} {m : M} (q : Q (.int ds.length) ((a, .lst ds) :: m)) : gc (fun xs H Q => ∃ x n, xs = [x] ∧ LenV K x H n ∧ Q (.int n) H) [.ref a] ((a, .lst ds) :: m) Q := gc_lenM (j := 0) rfl q
def tLstM (t : TA) : TE := tLst t
theorem pe_lstM {X : Cx} {es : List Expr} {t : TA} {pos : Pos} (h : PA X es t) : PE X (.List es pos) (tLstM t) := pe_lst h
theorem ge_lstC (h : ga xc aa d m fun xs m1 => xs.length ≤ 100000 ∧ ∀ p, p ∉ dom m1 → Q (.ref p) ((p, .lst xs) :: m1)) : ge xc (tLstM aa) d m Q := ge_lstM h
def tLcM (wi : TI) (g : TG) (tt : TT) (te : TE) (vs : List Nat) : TE := tLc wi g tt te vs
/-- a test that fails: if bad: return False -/
theorem gs_ifF {tt : TT} {tu : TS} (h : gt xc tt d m fun b m1 => b = false ∧ m1 = m) (k : gs xc tu E d m) : gs xc (tIfS tt ts tu) E d m := gs_if (h.mono fun b m1 ⟨hb, hm⟩ => by
  subst hb hm
  exact ite_f rfl k)
/-- the same, then what follows -/
theorem gs_bad {tt : TT} {tu : TS} (h : gt xc tt d m fun b m1 => b = false ∧ m1 = m) (k : gs xc tu E d m) : gs xc (tSeq (tIfS tt ts tNext) tu) E d m := gs_seq (gs_ifF h (gs_next k))
theorem gs_ifT {tt : TT} {tu : TS} (h : gt xc tt d m fun b m1 => b = true ∧ m1 = m) (k : gs xc ts E d m) : gs xc (tIfS tt ts tu) E d m := gs_if (h.mono fun b m1 ⟨hb, hm⟩ => by
  subst hb hm
  exact ite_t rfl k)
theorem gfor_cons {x : D} {r : List D} (h : gg xc g x d m fun d2 m2 => gs xc ts { E with nx := gfor xc g ts E r, ct := gfor xc g ts E r, bk := E.nx } d2 m2) : gfor xc g ts E (x :: r) d m := h
theorem gfor_nil (h : E.nx d m) : gfor xc g ts E [] d m := h
theorem ex_tup {xs : List D} {Q : List D → Prop} (q : Q xs) : ∃ ds, D.tup xs = .tup ds ∧ Q ds := ⟨xs, rfl, q⟩
theorem ex_lst {xs : List D} {Q : List D → Prop} (q : Q xs) : ∃ ds, D.lst xs = .lst ds ∧ Q ds := ⟨xs, rfl, q⟩
end
/-! ### mirrors: cuts -/
abbrev Cut := Option Int × Option Int × Option Int
abbrev Spn := Int × Int × Int
abbrev cutD (c : Cut) : D := .tup [oi c.1, oi c.2.1, oi c.2.2]
abbrev spnD (s : Spn) : D := .tup [.int s.1, .int s.2.1, .int s.2.2]
theorem shCut {n : Nat} (c : Cut) : Sh (n + 1) (cutD c) := .tup (.cons (shO _ _) (.cons (shO _ _) (.cons (shO _ _) (.nil _))))
theorem shSpan {n : Nat} (s : Spn) : Sh (n + 1) (spnD s) := .tup (.cons (.int _ _) (.cons (.int _ _) (.cons (.int _ _) (.nil _))))
def mx (i j : Int) : Int := if j > i then j else i
def mn (i j : Int) : Int := if j < i then j else i
def isNum : D → Int → Int → Bool
  | .int i, lo, hi => decide (lo ≤ i) && decide (i ≤ hi)
  | _, _, _ => false
def isEdge (x : D) : Bool := isN x || isNum x (-1000000000) 1000000000
def isCut : D → Bool
  | .tup [a, b, c] => isEdge a && (isEdge b && (isEdge c && (isN c || !deq c (.int 0))))
  | _ => false
def edgeM (n : Option Int) (l p lo hi : Int) : Int := match n with
  | none => p
  | some n => mx lo (mn hi (if n < 0 then n + l else n))
def endsM (c : Cut) (l : Int) : Spn := match c.2.2 with
  | none => (edgeM c.1 l 0 0 l, edgeM c.2.1 l l 0 l, 1)
  | some s => if 0 < s then (edgeM c.1 l 0 0 l, edgeM c.2.1 l l 0 l, s) else (edgeM c.1 l (l - 1) (-1) (l - 1), edgeM c.2.1 l (-1) (-1) (l - 1), s)
def plainM (f s n : Int) : Spn := if n < 1 then (0, 1, 0) else (f, if 1 < n then s else 1, n)
def spanM (c : Cut) (l : Int) : Spn :=
  if 0 < (endsM c l).2.2 then plainM (endsM c l).1 (endsM c l).2.2 (((endsM c l).2.1 - (endsM c l).1 + (endsM c l).2.2 - 1).fdiv (endsM c l).2.2)
  else plainM (endsM c l).1 (endsM c l).2.2 (((endsM c l).1 - (endsM c l).2.1 - (endsM c l).2.2 - 1).fdiv (0 - (endsM c l).2.2))
def OiOk (x : Option Int) : Prop := ∀ i, x = some i → -1000000000 ≤ i ∧ i ≤ 1000000000
structure CutOk (c : Cut) : Prop where
  b : OiOk c.1
  e : OiOk c.2.1
  s : OiOk c.2.2
  z : c.2.2 ≠ some 0
theorem isEdge_oi {x : Option Int} (h : OiOk x) : isEdge (oi x) = true := by
  cases x with
  | none => rfl
  | some i =>
    obtain ⟨h1, h2⟩ := h i rfl
    show (false || (decide (-1000000000 ≤ i) && decide (i ≤ 1000000000))) = true
    rw [decide_eq_true h1, decide_eq_true h2]
    rfl
theorem CutOk.is {c : Cut} (h : CutOk c) : isCut (cutD c) = true := by
  show (isEdge (oi c.1) && (isEdge (oi c.2.1) && (isEdge (oi c.2.2) && (isN (oi c.2.2) || !deq (oi c.2.2) (.int 0))))) = true
  rw [isEdge_oi h.b, isEdge_oi h.e, isEdge_oi h.s]
  cases e : c.2.2 with
  | none => rfl
  | some i =>
    have hz : i ≠ 0 := fun z => h.z (by rw [e, z])
    show (true && (true && (true && (false || !deq (.int i) (.int 0))))) = true
    rw [deq_int, decide_eq_false hz]
    rfl
theorem endsM_step {c : Cut} (h : CutOk c) (l : Int) : (endsM c l).2.2 ≠ 0 ∧ -1000000000 ≤ (endsM c l).2.2 ∧ (endsM c l).2.2 ≤ 1000000000 := by
  obtain ⟨b, en, st⟩ := c
  cases st with
  | none => exact ⟨by show (1 : Int) ≠ 0; decide, by show (-1000000000 : Int) ≤ 1; decide, by show (1 : Int) ≤ 1000000000; decide⟩
  | some s =>
    have hz : s ≠ 0 := fun z => h.z (by rw [z])
    obtain ⟨h1, h2⟩ := h.s s rfl
    have e : (endsM (b, en, some s) l).2.2 = s := by
      show (if 0 < s then ((edgeM b l 0 0 l, edgeM en l l 0 l, s) : Spn) else (edgeM b l (l - 1) (-1) (l - 1), edgeM en l (-1) (-1) (l - 1), s)).2.2 = s
      split <;> rfl
    rw [e]
    exact ⟨hz, h1, h2⟩
end Gd

namespace Gd
open PySem PySem.Spec PyProof.Rows L2
/-! ### the law's draws -/
structure TownOk (ns tw : List Int) (c : Nat) : Prop where
  len : tw.length = ns.length + 1
  hd : tw[0]? = some (c : Int)
theorem fm (x : Int) {k : Int} (h : 0 < k) : 0 ≤ x.fmod k ∧ x.fmod k < k := by
  rw [Int.fmod_eq_emod_of_nonneg x (Int.le_of_lt h)]
  exact ⟨Int.emod_nonneg x (by omega), Int.emod_lt_of_pos x h⟩
theorem atI_of {α : Type} {xs : List α} {i : Int} (h0 : 0 ≤ i) (h1 : i < xs.length) : ∃ x, L2.atI xs i = some x ∧ xs[i.toNat]? = some x := by
  have hi : i.toNat < xs.length := by omega
  refine ⟨xs[i.toNat], ?_, List.getElem?_eq_getElem hi⟩
  unfold L2.atI ixN
  rw [if_pos h0, if_pos (by omega)]
  exact List.getElem?_eq_getElem hi
theorem atI_some {α : Type} {xs : List α} {i : Int} {x : α} (h0 : 0 ≤ i) (h : xs[i.toNat]? = some x) : L2.atI xs i = some x := by
  have hi : i.toNat < xs.length := (List.getElem?_eq_some_iff.mp h).1
  unfold L2.atI ixN
  rw [if_pos h0, if_pos (by omega)]
  exact h
theorem ixN_of {n : Nat} {i : Int} (h0 : 0 ≤ i) (h1 : i < n) : ixN n i = some i.toNat := by
  unfold ixN
  rw [if_pos h0, if_pos (by omega)]
theorem townOk_set {ns tw : List Int} {c : Nat} (h : TownOk ns tw c) (x : Int) (i : Nat) : TownOk ns (tw.set (i + 1) x) c := ⟨by rw [List.length_set]; exact h.len, by rw [List.getElem?_set_ne (by omega)]; exact h.hd⟩
theorem townOk_count {ns tw : List Int} {c : Nat} (h : TownOk ns tw c) : TownOk ns (tw.set 0 ((c : Int) + 1)) (c + 1) := by
  refine ⟨by rw [List.length_set]; exact h.len, ?_⟩
  rw [List.getElem?_set_self (by rw [h.len]; omega)]
  rfl
theorem mset (m : M) (j : Nat) (a b : Addr × MO) : (m.set j a).set j b = m.set j b := List.set_set ..
/-- an edge that was drawn -/
def EdB (top : Int) (o : Option Int) : Prop := ∀ i, o = some i → -(max 7 top) ≤ i ∧ i ≤ max 7 top
structure CutB (top wide : Int) (c : Cut) : Prop where
  b : EdB top c.1
  e : EdB top c.2.1
  s : ∀ i, c.2.2 = some i → i ≠ 0 ∧ -(max 3 wide) ≤ i ∧ i ≤ max 3 wide
theorem CutB.ok {top wide : Int} {c : Cut} (h : CutB top wide c) (h1 : top ≤ 1000000000) (h2 : wide ≤ 1000000000) : CutOk c :=
  ⟨fun i e => by have := h.b i e; omega, fun i e => by have := h.e i e; omega, fun i e => by have := h.s i e; omega, fun e => (h.s 0 e).1 rfl⟩
end Gd

namespace Gd
open PySem PySem.Spec PyProof.Rows L2
theorem ite_deqY {i j : Int} {A B : Prop} (e : i = j) (h : A) : if deq (.int i) (.int j) = true then A else B := ite_t (by rw [deq_int, decide_eq_true e]) h
theorem ite_deqN {i j : Int} {A B : Prop} (e : i ≠ j) (h : B) : if deq (.int i) (.int j) = true then A else B := ite_f (by rw [deq_int, decide_eq_false e]) h
theorem ite_deq {i j : Int} {A B : Prop} (h1 : i = j → A) (h2 : i ≠ j → B) : if deq (.int i) (.int j) = true then A else B := by
  rw [deq_int]
  exact ite_dec h1 h2
/-! ### plain mathematics of spans -/
theorem fdiv_is {a w q r : Int} (hw : 0 < w) (h : a = w * q + r) (h0 : 0 ≤ r) (h1 : r < w) : a.fdiv w = q := by
  rw [Int.fdiv_eq_ediv_of_nonneg a (Int.le_of_lt hw)]
  exact ((Int.ediv_emod_unique hw).mpr ⟨by omega, h0, h1⟩).1
theorem fdiv_split (a : Int) {w : Int} (hw : 0 < w) : ∃ q r, a = w * q + r ∧ 0 ≤ r ∧ r < w ∧ a.fdiv w = q ∧ a.fmod w = r := by
  refine ⟨a / w, a % w, (Int.mul_ediv_add_emod a w).symm, Int.emod_nonneg a (by omega), Int.emod_lt_of_pos a hw, Int.fdiv_eq_ediv_of_nonneg a (Int.le_of_lt hw), Int.fmod_eq_emod_of_nonneg a (Int.le_of_lt hw)⟩
/-- how many steps of w lie below far -/
theorem steps_of (far : Int) {w : Int} (hw : 0 < w) : ∃ n, (far + w - 1).fdiv w = n ∧ (far ≤ 0 → n < 1) ∧ (0 < far → 1 ≤ n ∧ w * (n - 1) < far ∧ far ≤ w * n ∧ far.fdiv w + (if 0 < far.fmod w then 1 else 0) = n ∧ n ≤ far) := by
  obtain ⟨q, r, e, h0, h1, eq, er⟩ := fdiv_split far hw
  by_cases hr : 0 < r
  · refine ⟨q + 1, fdiv_is (r := r - 1) hw (by rw [Int.mul_add, Int.mul_one]; omega) (by omega) (by omega), fun hf => ?_, fun hf => ?_⟩
    · by_cases hq : 0 ≤ q
      · have : 0 ≤ w * q := Int.mul_nonneg (by omega) hq
        omega
      · omega
    · have hq : 0 ≤ q := by
        by_cases hq : 0 ≤ q
        · exact hq
        · have : w * q ≤ w * (-1) := Int.mul_le_mul_of_nonneg_left (by omega) (by omega)
          omega
      have hwq : q ≤ w * q := by
        have := Int.mul_le_mul_of_nonneg_right (show 1 ≤ w by omega) hq
        rwa [Int.one_mul] at this
      refine ⟨by omega, ?_, ?_, ?_, by omega⟩
      · rw [Int.add_sub_cancel]; omega
      · rw [Int.mul_add, Int.mul_one]; omega
      · rw [eq, er, if_pos hr]
  · have hr0 : r = 0 := by omega
    refine ⟨q, fdiv_is (r := w - 1) hw (by omega) (by omega) (by omega), fun hf => ?_, fun hf => ?_⟩
    · by_cases hq : 1 ≤ q
      · have : w * 1 ≤ w * q := Int.mul_le_mul_of_nonneg_left hq (by omega)
        omega
      · omega
    · have hq : 1 ≤ q := by
        by_cases hq : 1 ≤ q
        · exact hq
        · have : w * q ≤ w * 0 := Int.mul_le_mul_of_nonneg_left (by omega) (by omega)
          omega
      have hwq : q ≤ w * q := by
        have := Int.mul_le_mul_of_nonneg_right (show 1 ≤ w by omega) (show 0 ≤ q by omega)
        rwa [Int.one_mul] at this
      refine ⟨hq, ?_, by omega, ?_, by omega⟩
      · rw [Int.mul_sub, Int.mul_one]; omega
      · rw [eq, er, if_neg hr]; omega
theorem clamp_b {n : Option Int} {l p lo hi : Int} (h : lo ≤ hi) (hp : lo ≤ p ∧ p ≤ hi) : lo ≤ edgeM n l p lo hi ∧ edgeM n l p lo hi ≤ hi := by
  cases n with
  | none => exact hp
  | some n =>
    show lo ≤ mx lo (mn hi (if n < 0 then n + l else n)) ∧ mx lo (mn hi (if n < 0 then n + l else n)) ≤ hi
    unfold mx mn
    generalize (if n < 0 then n + l else n) = k
    split <;> split <;> omega
/-- the ends lie about the row -/
theorem ends_b {c : Cut} (h : CutOk c) {l : Int} (hl : 0 ≤ l) : ∃ b e s, endsM c l = (b, e, s) ∧ s ≠ 0 ∧ -1000000000 ≤ s ∧ s ≤ 1000000000 ∧ (0 < s → 0 ≤ b ∧ b ≤ l ∧ 0 ≤ e ∧ e ≤ l) ∧ (s < 0 → -1 ≤ b ∧ b ≤ l - 1 ∧ -1 ≤ e ∧ e ≤ l - 1) := by
  obtain ⟨h1, h2, h3⟩ := endsM_step h l
  refine ⟨(endsM c l).1, (endsM c l).2.1, (endsM c l).2.2, rfl, h1, h2, h3, ?_⟩
  clear h1 h2 h3
  obtain ⟨b, e, st⟩ := c
  have p1 := clamp_b (n := b) (l := l) (p := 0) (lo := 0) (hi := l) hl ⟨by omega, hl⟩
  have p2 := clamp_b (n := e) (l := l) (p := l) (lo := 0) (hi := l) hl ⟨hl, by omega⟩
  have p3 := clamp_b (n := b) (l := l) (p := l - 1) (lo := -1) (hi := l - 1) (by omega) ⟨by omega, by omega⟩
  have p4 := clamp_b (n := e) (l := l) (p := -1) (lo := -1) (hi := l - 1) (by omega) ⟨by omega, by omega⟩
  cases st with
  | none => exact ⟨fun _ => ⟨p1.1, p1.2, p2.1, p2.2⟩, fun z => absurd (show (1 : Int) < 0 from z) (by decide)⟩
  | some s =>
    by_cases hs : 0 < s
    · have e1 : endsM (b, e, some s) l = (edgeM b l 0 0 l, edgeM e l l 0 l, s) := by simp only [endsM, if_pos hs]
      rw [e1]
      exact ⟨fun _ => ⟨p1.1, p1.2, p2.1, p2.2⟩, fun z => by have z : s < 0 := z; omega⟩
    · have e1 : endsM (b, e, some s) l = (edgeM b l (l - 1) (-1) (l - 1), edgeM e l (-1) (-1) (l - 1), s) := by simp only [endsM, if_neg hs]
      rw [e1]
      exact ⟨fun z => absurd (show 0 < s from z) hs, fun _ => ⟨p3.1, p3.2, p4.1, p4.2⟩⟩
/-- what is true of a span by its ends -/
theorem span_facts {c : Cut} {l b e s : Int} (he : endsM c l = (b, e, s)) (hs : s ≠ 0) :
    (spanM c l = (0, 1, 0) ∧ (0 < s → e ≤ b) ∧ (s < 0 → b ≤ e)) ∨
    ∃ n w, 1 ≤ n ∧ spanM c l = (b, if 1 < n then s else 1, n) ∧ w = s * (n - 1) ∧ (if 1 < n then s else 1) * (n - 1) = w ∧ (0 < s → 0 ≤ w ∧ b + w < e ∧ e ≤ b + w + s ∧ n ≤ e - b) ∧ (s < 0 → w ≤ 0 ∧ e < b + w ∧ b + w + s ≤ e ∧ n ≤ b - e) := by
  have hm : ∀ n : Int, 1 ≤ n → (if 1 < n then s else 1) * (n - 1) = s * (n - 1) := fun n hn => by
    by_cases h1 : 1 < n
    · rw [if_pos h1]
    · have : n - 1 = 0 := by omega
      rw [this, Int.mul_zero, Int.mul_zero]
  by_cases hp : 0 < s
  · obtain ⟨n, e1, e2, e3⟩ := steps_of (e - b) hp
    have es : spanM c l = plainM b s n := by
      unfold spanM
      rw [he]
      show (if 0 < s then plainM b s ((e - b + s - 1).fdiv s) else _) = _
      rw [if_pos hp, e1]
    by_cases hf : e ≤ b
    · have hn := e2 (by omega)
      left
      refine ⟨by rw [es]; unfold plainM; rw [if_pos hn], fun _ => hf, fun z => by omega⟩
    · obtain ⟨f1, f2, f3, f4, f5⟩ := e3 (by omega)
      right
      have f3' : e - b ≤ s * (n - 1) + s := by
        have : s * (n - 1) + s = s * n := by rw [Int.mul_sub, Int.mul_one]; omega
        omega
      have w0 : 0 ≤ s * (n - 1) := Int.mul_nonneg (by omega) (by omega)
      refine ⟨n, s * (n - 1), f1, by rw [es]; unfold plainM; rw [if_neg (by omega)], rfl, hm n f1, fun _ => ⟨w0, by omega, by omega, by omega⟩, fun z => by omega⟩
  · have hn : 0 < 0 - s := by omega
    obtain ⟨n, e1, e2, e3⟩ := steps_of (b - e) hn
    have es : spanM c l = plainM b s n := by
      unfold spanM
      rw [he]
      show (if 0 < s then _ else plainM b s ((b - e - s - 1).fdiv (0 - s))) = _
      rw [if_neg hp, ← e1]
      congr 2
      omega
    by_cases hf : b ≤ e
    · have hn := e2 (by omega)
      left
      refine ⟨by rw [es]; unfold plainM; rw [if_pos hn], fun z => by omega, fun _ => hf⟩
    · obtain ⟨f1, f2, f3, f4, f5⟩ := e3 (by omega)
      right
      have g1 : (0 - s) * (n - 1) = -(s * (n - 1)) := by rw [Int.zero_sub, Int.neg_mul]
      have f3' : b - e ≤ -(s * (n - 1)) - s := by
        have : (0 - s) * (n - 1) + (0 - s) = (0 - s) * n := by rw [Int.mul_sub, Int.mul_one]; omega
        omega
      have w0 : 0 ≤ (0 - s) * (n - 1) := Int.mul_nonneg (by omega) (by omega)
      refine ⟨n, s * (n - 1), f1, by rw [es]; unfold plainM; rw [if_neg (by omega)], rfl, hm n f1, fun z => by omega, fun _ => ⟨by omega, by omega, by omega, by omega⟩⟩
theorem deq_span (s t : Spn) : deq (spnD s) (spnD t) = decide (s = t) := by
  obtain ⟨a, b, c⟩ := s
  obtain ⟨x, y, z⟩ := t
  show ((a == x) && ((b == y) && ((c == z) && true))) = _
  by_cases h1 : a = x
  · by_cases h2 : b = y
    · by_cases h3 : c = z
      · subst h1 h2 h3; simp
      · rw [decide_eq_false (fun h => h3 (by injection h with _ h; injection h))]; simp [h1, h2, h3]
    · rw [decide_eq_false (fun h => h2 (by injection h with _ h; injection h))]; simp [h1, h2]
  · rw [decide_eq_false (fun h => h1 (by injection h))]; simp [h1]
theorem edge_mid {x l pl lo hi k : Int} (hk : (if x < 0 then x + l else x) = k) (h1 : lo ≤ k) (h2 : k ≤ hi) : edgeM (some x) l pl lo hi = k := by
  show mx lo (mn hi (if x < 0 then x + l else x)) = k
  rw [hk]
  unfold mx mn
  split <;> split <;> omega
/-- begin and end lie within the row -/
theorem ends_mid {p q kp kq l : Int} {st : Option Int} (hp : (if p < 0 then p + l else p) = kp) (hq : (if q < 0 then q + l else q) = kq) (h1 : 0 ≤ kp) (h2 : kp < l) (h3 : 0 ≤ kq) (h4 : kq < l) : endsM (some p, some q, st) l = (kp, kq, st.getD 1) := by
  cases st with
  | none =>
    show (edgeM (some p) l 0 0 l, edgeM (some q) l l 0 l, (1 : Int)) = _
    rw [edge_mid hp h1 (by omega), edge_mid hq h3 (by omega)]
    rfl
  | some s =>
    by_cases hs : 0 < s
    · simp only [endsM, if_pos hs]
      rw [edge_mid hp h1 (by omega), edge_mid hq h3 (by omega)]
      rfl
    · simp only [endsM, if_neg hs]
      rw [edge_mid hp (by omega) (by omega), edge_mid hq (by omega) (by omega)]
      rfl
theorem span_shift {c : Cut} {l l' b e s d : Int} (h : endsM c l = (b, e, s)) (h' : endsM c l' = (b + d, e + d, s)) {n : Int} (hn : 1 ≤ n) {f st : Int} (hs : spanM c l = (f, st, n)) : spanM c l' = (f + d, st, n) := by
  have key : ∀ x k y : Int, plainM x k y = (f, st, n) → plainM (x + d) k y = (f + d, st, n) := fun x k y hh => by
    unfold plainM at hh ⊢
    by_cases h1 : y < 1
    · rw [if_pos h1] at hh
      injection hh with _ hh
      injection hh with _ hh
      omega
    · rw [if_neg h1] at hh ⊢
      injection hh with a hh
      rw [a, hh]
  unfold spanM at hs ⊢
  rw [h] at hs
  rw [h']
  have e1 : e + d - (b + d) + s - 1 = e - b + s - 1 := by omega
  have e2 : b + d - (e + d) - s - 1 = b - e - s - 1 := by omega
  show (if 0 < s then plainM (b + d) s ((e + d - (b + d) + s - 1).fdiv s) else plainM (b + d) s ((b + d - (e + d) - s - 1).fdiv (0 - s))) = _
  rw [e1, e2]
  by_cases hp : 0 < s
  · rw [if_pos hp]
    exact key _ _ _ (by simpa [hp] using hs)
  · rw [if_neg hp]
    exact key _ _ _ (by simpa [hp] using hs)
end Gd

namespace Gd
open PySem PySem.Spec PyProof.Rows L2
/-! ### comprehensions that change nothing -/
section
variable {xc : Xc} {d : Dl} {m : M} {Q : D → M → Prop} {E : De} {te : TE} {tt : TT} {ts : TS} {g : TG} {aa ab : TA} {p : Addr} {R : List D → M → Prop}
theorem gg.mono {Q1 Q2 : Dl → M → Prop} {x : D} (h : gg xc g x d m Q1) (k : ∀ x m', Q1 x m' → Q2 x m') : gg xc g x d m Q2 := fun v sg H s e r Q' q => h v sg H s e r Q' fun sg' H' d' m' a b c z => q sg' H' d' m' a b c (k d' m' z)
theorem glc_fm (f : D → Option D) (ds : List D) (hl : ds.length < 100000)
    (h : ∀ x ∈ ds, ∀ acc, gg xc g x d ((p, .lst acc) :: m) fun d2 m2 => gt xc tt d2 m2 fun b m3 => if b = true then ge xc te d2 m3 fun z m4 => f x = some z ∧ m4 = (p, .lst acc) :: m else f x = none ∧ m3 = (p, .lst acc) :: m)
    (hR : R (ds.filterMap f) m) : glc xc g tt te d p R ds [] m := by
  have all : ∀ (ds : List D) (acc : List D), acc.length + ds.length < 100000 → (∀ x ∈ ds, ∀ acc, gg xc g x d ((p, .lst acc) :: m) fun d2 m2 => gt xc tt d2 m2 fun b m3 => if b = true then ge xc te d2 m3 fun z m4 => f x = some z ∧ m4 = (p, .lst acc) :: m else f x = none ∧ m3 = (p, .lst acc) :: m) → R (acc ++ ds.filterMap f) m → glc xc g tt te d p R ds acc m := by
    intro ds
    induction ds with
    | nil =>
      intro acc _ _ hR
      rw [List.filterMap_nil, List.append_nil] at hR
      exact hR
    | cons x r ih =>
      intro acc hl h hR
      rw [List.length_cons] at hl
      refine (h x List.mem_cons_self acc).mono fun d2 m2 q => q.mono fun b m3 q => ?_
      cases b with
      | true =>
        refine ge.mono (show ge xc te d2 m3 fun z m4 => f x = some z ∧ m4 = (p, .lst acc) :: m from q) fun z m4 ⟨e1, e2⟩ => ⟨m, e2, by omega, ?_⟩
        refine ih (acc ++ [z]) (by rw [List.length_append]; simp only [List.length_cons, List.length_nil]; omega) (fun y hy => h y (List.mem_cons_of_mem _ hy)) ?_
        rw [List.filterMap_cons_some e1] at hR
        rw [List.append_assoc]
        exact hR
      | false =>
        obtain ⟨e1, e2⟩ := (show f x = none ∧ m3 = (p, .lst acc) :: m from q)
        refine ⟨m, e2, ih acc (by omega) (fun y hy => h y (List.mem_cons_of_mem _ hy)) ?_⟩
        rw [List.filterMap_cons_none e1] at hR
        exact hR
  exact all ds [] (by simpa using hl) h (by simpa using hR)
theorem glc_map (F : D → D) (ds : List D) (hl : ds.length < 100000) (h : ∀ x ∈ ds, ∀ acc, gg xc g x d ((p, .lst acc) :: m) fun d2 m2 => ge xc te d2 m2 fun z m4 => z = F x ∧ m4 = (p, .lst acc) :: m)
    (hR : R (ds.map F) m) : glc xc g tYes te d p R ds [] m := by
  refine glc_fm (fun x => some (F x)) ds hl (fun x hx acc => (h x hx acc).mono fun d2 m2 q => gt_yes ?_) ?_
  · exact ite_t rfl (q.mono fun z m4 ⟨e1, e2⟩ => ⟨by rw [e1], e2⟩)
  · have : ds.filterMap (fun x => some (F x)) = ds.map F := by
      rw [← List.filterMap_eq_map]
      rfl
    rw [this]
    exact hR
theorem glc_range (F : Nat → D) (lo : Int) (n : Nat) (hl : n < 100000) (h : ∀ i : Nat, i < n → ∀ acc, gg xc g (.int (lo + (i : Nat))) d ((p, .lst acc) :: m) fun d2 m2 => ge xc te d2 m2 fun z m4 => z = F i ∧ m4 = (p, .lst acc) :: m)
    (hR : R ((List.range n).map F) m) : glc xc g tYes te d p R (rgD lo n) [] m := by
  have F' : D → D := fun x => x
  refine glc_map (fun x => match x with | .int k => F (k - lo).toNat | _ => .non) (rgD lo n) (by rw [rgD_len]; exact hl) (fun x hx acc => ?_) ?_
  · unfold rgD at hx
    obtain ⟨i, hi, e⟩ := List.mem_map.mp hx
    subst e
    refine (h i (List.mem_range.mp hi) acc).mono fun d2 m2 q => q.mono fun z m4 ⟨e1, e2⟩ => ⟨?_, e2⟩
    rw [e1]
    show F i = F (lo + (i : Nat) - lo).toNat
    congr 1
    omega
  · have : (rgD lo n).map (fun x => match x with | .int k => F (k - lo).toNat | _ => .non) = (List.range n).map F := by
      unfold rgD
      rw [List.map_map]
      apply List.map_congr_left
      intro i _
      show F (lo + (i : Nat) - lo).toNat = F i
      congr 1
      omega
    rw [this]
    exact hR
theorem gw_tup {K : PySem.W.Frag} {n : Nat} {gs' : TGs} {vs : List Nat} (h : ∀ xs sg H Q, gs' xs sg H Q → gs' xs sg H fun sg' H' => wipe sg' vs = wipe sg vs ∧ Q sg' H') : GW (gTup K n gs') vs := fun v sg H Q ⟨a, xs, e1, e2, e3, q⟩ => ⟨a, xs, e1, e2, e3, h xs sg H Q q⟩
/-! ### more built-ins -/
theorem gc_all {K : PySem.W.Frag} {bs : List Bool} (q : Q (.bl (bs.all id)) m) : gc (rAll K) [.lst (bs.map D.bl)] m Q := fun H vs s r Q' k => by
  cases r with | cons r1 r2 =>
  cases r2
  obtain ⟨a, us, rfl, oa, ea, ra⟩ := r1.lst_inv
  have e := Reps.bls_inv ra
  subst e
  exact ⟨a, bs, rfl, .inl (.inl ea), k _ H _ m .refl (.bl _) s q⟩
theorem gc_sum {K : PySem.W.Frag} {ns : List Int} (q : Q (.int ns.sum) m) : gc (rSum K) [.lst (ns.map D.int)] m Q := fun H vs s r Q' k => by
  cases r with | cons r1 r2 =>
  cases r2
  obtain ⟨a, us, rfl, oa, ea, ra⟩ := r1.lst_inv
  have e := Reps.ints_inv ra
  subst e
  exact ⟨a, ns, rfl, .inl (.inl ea), k _ H _ m .refl (.int _) s q⟩
theorem gc_sorted {K : PySem.W.Frag} {ns : List Int} (q : ∀ ns' : List Int, ns'.Perm ns → ns'.Pairwise (· ≤ ·) → Q (.lst (ns'.map D.int)) m) : gc (rSortedI K) [.lst (ns.map D.int)] m Q := fun H vs s r Q' k => by
  cases r with | cons r1 r2 =>
  cases r2
  obtain ⟨a, us, rfl, oa, ea, ra⟩ := r1.lst_inv
  have e := Reps.ints_inv ra
  subst e
  exact ⟨a, ns, rfl, .inl (.inl ea), fun ns' p h1 h2 np => k _ _ (.lst (ns'.map D.int)) m (.fresh np) (.lst (s.off_new np) upd_same (Reps.ints ns')) (s.fresh np) (q ns' h1 h2)⟩
theorem Reps.reverse {ok : Addr → Prop} {H : Hp} : ∀ {ds : List D} {vs : List V}, Reps ok H ds vs → Reps ok H ds.reverse vs.reverse
  | _, _, .nil => .nil
  | _, _, .cons r t => by
    rw [List.reverse_cons, List.reverse_cons]
    exact (Reps.reverse t).snoc r
theorem ge_rev {K : PySem.W.Frag} (h : ge xc te d m fun x m1 => ∃ ds, x = .lst ds ∧ Q (.lst ds.reverse) m1) : ge xc (tRevL K te) d m Q := fun sg H s e Q' k =>
  h sg H s e _ fun v H1 x m1 s1 r1 t1 ⟨ds, hx, q⟩ => by
    subst hx
    obtain ⟨a, us, rfl, oa, ea, ra⟩ := r1.lst_inv
    exact ⟨a, us, rfl, .inl (.inl ea), fun p np => k _ _ (.lst ds.reverse) m1 (s1.trans (.fresh np)) (.lst (t1.off_new np) upd_same (ra.reverse.step (.fresh np))) (t1.fresh np) q⟩
/-! slices -/
def cutL {α : Type} (xs : List α) (lo hi : Option Int) : List α := (xs.drop (HT.sIx xs.length 0 lo)).take (HT.sIx xs.length xs.length hi - HT.sIx xs.length 0 lo)
def go (xc : Xc) (t : TO) (d : Dl) (m : M) (Q : Option Int → M → Prop) : Prop :=
  ∀ sg H, MSat m H → ESat xc d m sg H → ∀ Q' : Option Int → Hp → Prop, (∀ b H' m', Step m H m' H' → MSat m' H' → Q b m' → Q' b H') → t sg H Q'
theorem go_none {Q : Option Int → M → Prop} (q : Q none m) : go xc tNoPart d m Q := fun sg H s e Q' k => k _ H m .refl s q
theorem go_some {Q : Option Int → M → Prop} (h : ge xc te d m fun x m1 => ∃ i, x = .int i ∧ Q (some i) m1) : go xc (tPart te) d m Q := fun sg H s e Q' k =>
  h sg H s e _ fun v H1 x m1 s1 r1 t1 ⟨i, hx, q⟩ => by
    subst hx
    exact ⟨i, r1.int_inv, k _ H1 m1 s1 t1 q⟩
theorem ex_int {i : Int} {Q : Int → Prop} (q : Q i) : ∃ j, D.int i = D.int j ∧ Q j := ⟨i, rfl, q⟩
def gsl (r : V → Option Int → Option Int → Hp → VK → Prop) (x : D) (lo hi : Option Int) (m : M) (Q : D → M → Prop) : Prop :=
  ∀ H vx, MSat m H → Rep (off m) H x vx → ∀ Q' : VK, (∀ v H' z m', Step m H m' H' → Rep (off m') H' z v → MSat m' H' → Q z m' → Q' v H') → r vx lo hi H Q'
theorem ge_sl {r : V → Option Int → Option Int → Hp → VK → Prop} {tl th : TO} (h : ge xc te d m fun x m1 => go xc tl d m1 fun lo m2 => go xc th d m2 fun hi m3 => gsl r x lo hi m3 Q) : ge xc (tSl r te tl th) d m Q := fun sg H s e Q' k =>
  h sg H s e _ fun v H1 x m1 s1 r1 t1 q => q sg H1 t1 (e.step s1) _ fun lo H2 m2 s2 t2 q2 => q2 sg H2 t2 ((e.step s1).step s2) _ fun hi H3 m3 s3 t3 q3 => q3 H3 v t3 ((r1.step s2).step s3) Q' fun w H4 z m4 s4 r4 t4 q4 => k w H4 z m4 (((s1.trans s2).trans s3).trans s4) r4 t4 q4
theorem cutV_reps {ok : Addr → Prop} {H : Hp} {ds : List D} {vs : List V} {lo hi : Option Int} (r : Reps ok H ds vs) : Reps ok H (cutL ds lo hi) (cutV vs lo hi) := by
  unfold cutL cutV
  rw [← r.length]
  exact (r.drop _).take _
theorem gsl_L {K : PySem.W.Frag} {ds : List D} {lo hi : Option Int} (q : Q (.lst (cutL ds lo hi)) m) : gsl (rSlL K) (.lst ds) lo hi m Q := fun H vx s r1 Q' k => by
  obtain ⟨a, us, rfl, oa, ea, ra⟩ := r1.lst_inv
  exact ⟨a, us, rfl, .inl (.inl ea), fun p np => k _ _ (.lst (cutL ds lo hi)) m (.fresh np) (.lst (s.off_new np) upd_same ((cutV_reps ra).step (.fresh np))) (s.fresh np) q⟩
theorem gsl_M {K : PySem.W.Frag} {ds : List D} {lo hi : Option Int} {a : Addr} {j : Nat} (hm : m[j]? = some (a, .lst ds)) (q : Q (.lst (cutL ds lo hi)) m) : gsl (rSlL K) (.ref a) lo hi m Q := fun H vx s r1 Q' k => by
  obtain ⟨us, ea, ra⟩ := s.get hm
  rw [r1.ref_inv]
  exact ⟨a, us, rfl, .inl (.inl ea), fun p np => k _ _ (.lst (cutL ds lo hi)) m (.fresh np) (.lst (s.off_new np) upd_same ((cutV_reps ra).step (.fresh np))) (s.fresh np) q⟩
/-! calls with a keyword -/
theorem ge_callN {T : TD} {n k : Nat} (h : ga xc aa d m fun xs m1 => ga xc ab d m1 fun zs m2 => xs.length = n ∧ zs.length = k ∧ T (xs ++ zs) m2 Q xc.X0) : ge xc (tCallN n k (spOf T) (fun vs zs => vs ++ zs) xc.Ex aa ab) d m Q := fun sg H s e Q' kk =>
  h sg H s e _ fun vs H1 xs m1 s1 r1 t1 q1 => q1 sg H1 t1 (e.step s1) _ fun zs H2 ys m2 s2 r2 t2 ⟨l1, l2, q⟩ =>
    ⟨by rw [← r1.length]; exact l1, by rw [← r2.length]; exact l2, xs ++ ys, m2, Q, xc.X0, (r1.step s2).append r2, t2, q, fun v H' z m' s3 r3 t3 q3 => kk v H' z m' ((s1.trans s2).trans s3) r3 t3 q3, (e.xk.step s1).step s2⟩
end
/-! ### the rules with the written part as a letter of its own (within a comprehension's block too) -/
section
variable {X : Cx} (K : PySem.W.Frag)
theorem kAdd (h : X.K = K := by rfl) : OpR X (binaryOp .Add) (rAddP K) := by subst h; exact op_addP
theorem kEq (hu : X.A.units + 64 < cLine) (h : X.K = K := by rfl) : OpR X (compareOp .Eq) (rEqD K) := by subst h; exact op_eqD hu
theorem kNe (hu : X.A.units + 64 < cLine) (h : X.K = K := by rfl) : OpR X (compareOp .NotEq) (rNeD K) := by subst h; exact op_neD hu
theorem kIx (h : X.K = K := by rfl) : IxR X (rIx K) := by subst h; exact ix_seq
theorem kLen (h : X.K = K := by rfl) : CallR X (.builtin "len") (fun xs H Q => ∃ x n, xs = [x] ∧ LenV K x H n ∧ Q (.int n) H) := by subst h; exact call_len
theorem kIsi (h : X.K = K := by rfl) : CallR X (.builtin "isinstance") (rIsi K) := by subst h; exact call_isi
theorem kList (h : X.K = K := by rfl) : CallR X (.type "list") (rListOf K) := by subst h; exact call_list_of
theorem kSl (h : X.K = K := by rfl) : SlR X (rSlL K) := by subst h; exact sl_list
theorem kAll (hc : X.calm = true) (h : X.K = K := by rfl) : CallR X (.builtin "all") (rAll K) := by subst h; exact cr_all hc
theorem kSum (hc : X.calm = true) (h : X.K = K := by rfl) : CallR X (.builtin "sum") (rSum K) := by subst h; exact cr_sum hc
theorem kSorted (h : X.K = K := by rfl) : CallR X (.builtin "sorted") (rSortedI K) := by subst h; exact cr_sortedI
theorem kRev {e : Expr} {te : TE} {k : Nat} {p1 p2 p3 pos : Pos} (he : PE X e te) (h : X.K = K := by rfl) : PE X (.Subscript e (.Slice none none (some (.UnaryOp .USub (.Constant (.int 1) k p1) p2)) p3) pos) (tRevL K te) := by subst h; exact pe_revL he
theorem kTup {es : List Expr} {k : Nat} {t : TGs} {n : Nat} {pos : Pos} (hc : X.calm = true) (h : PGs X es t) (hK : X.K = K := by rfl) (hn : (assignEach es X.env).length = n := by rfl) (hst : (assignEach es X.env).findIdx? (·.1) = none := by rfl) : PG X (.Tuple es k pos) (gTup K n t) := by subst hK; exact pg_tup hc h hn hst
theorem kiList {tg l : Expr} {tl : TE} (hl : PE X l tl) (h : X.K = K := by rfl) : PI X tg l (iList K tl) := by subst h; exact pi_list hl
theorem kiTup {tg l : Expr} {tl : TE} (hl : PE X l tl) (h : X.K = K := by rfl) : PI X tg l (iTup K tl) := by subst h; exact pi_tup hl
theorem kiEnum {e : Expr} {ta : TA} {p pos tpos : Pos} {elts : List Expr} {kk : Nat} (hg : Gl X "enumerate") (hm : X.mg "enumerate" = none) (ha : PA X [e] ta) (h : X.K = K := by rfl) (hs : starEach [e] X.env = [(false, eval e X.env)] := by rfl) :
    PI X (.Tuple elts kk tpos) (.Call (.Name "enumerate" p) [e] [] pos) (iEnum K ta) := by subst h; exact pi_enum hg hm ha hs
theorem kiZip {e e2 : Expr} {ta : TA} {p pos tpos : Pos} {elts : List Expr} {kk : Nat} (hg : Gl X "zip") (hm : X.mg "zip" = none) (ha : PA X [e, e2] ta) (h : X.K = K := by rfl)
    (hs : starEach [e, e2] X.env = (false, eval e X.env) :: starEach [e2] X.env := by rfl) (hpl : (backTo pos (starEach [e2] X.env)).any (·.1) = false := by rfl) :
    PI X (.Tuple elts kk tpos) (.Call (.Name "zip" p) [e, e2] [] pos) (iZip K ta) := by subst h; exact pi_zip hg hm ha hs hpl
theorem kBm {T : String} {name : Str} {id : String} {r : V → List V → Hp → VK → Prop} {o e : Expr} {es : List Expr} {to : TE} {t : TA} {apos cpos : Pos} (pa : PlainAttrs T) (slot : Slot T name id) (hty : typeOf (.builtin id) = pure (.type "method_descriptor")) (hm : MtR X id r) (ho : PE X o to) (ha : PA X (e :: es) t) (hK : X.K = K := by rfl)
    (hbase : attributeBase o name X.env (eval o X.env) = eval o X.env := by rfl)
    (hfew : ((backTo cpos (starEach (e :: es) X.env)).all (fun x => !x.1) && (backToKw cpos (keywordEach [] X.env)).all (fun x => x.1.isSome)
      && decide ((e :: es).length + ([] : List Keyword).length + (if ([] : List Keyword).isEmpty then 0 else 1) < 30)) = true := by rfl)
    (hline : (apos.endLine == cpos.line) = true := by rfl) (hs : starEach (e :: es) X.env = (false, eval e X.env) :: starEach es X.env := by rfl) (hplain : (backTo cpos (starEach es X.env)).any (·.1) = false := by rfl) :
    PE X (.Call (.Attribute o name apos) (e :: es) [] cpos) (tBM K T r to t) := by subst hK; exact pe_bm pa slot hty hm ho ha hbase hfew hline hs hplain
end
theorem pe_rev {X : Cx} {e : Expr} {te : TE} {k : Nat} {p1 p2 p3 pos : Pos} (he : PE X e te) : PE X (.Subscript e (.Slice none none (some (.UnaryOp .USub (.Constant (.int 1) k p1) p2)) p3) pos) (tRevL X.K te) := pe_revL he
theorem sl_P {X : Cx} : SlR X (rSlL X.K) := sl_list
/-- the binding of a call with one keyword, for a def with defaults -/
theorem kbn_of {K : PySem.W.Frag} {x qual : Str} {params : Arguments} {body : List Stmt} {scope : Scope} {dvs : List V} {kws : List (Str × V)} {f : Addr} {fd : FuncData} {ps : List Str} (F : FunD K x qual params body scope dvs kws f fd) (n : Nat) (ks : List Str) (hd : dvs ≠ [])
    (h : ∀ (T : Addr) (kV doc pm : Value) (an : Option Addr) (cdv ct : Value) (us its ws : List Value), us.length = n → its.length = dvs.length → ws.length = ks.length →
      ∃ k, bindArgs (PySem.W.fnOf x qual params body scope (.ref T) kV doc pm an cdv ct) ⟨us, ks.zip ws⟩ = seqItems? (.ref T) >>= k ∧ k (some its.toArray) = pure (ps.zip (us ++ ws))) :
    KBn K fd ps n ks (fun us ws => us ++ ws) (fun vs zs => vs ++ zs) := by
  obtain ⟨oc, od, dV, kV, doc, pm, an, cdv, ct, osl, rfl, lk, hcd, hD, hK⟩ := F.ex
  rcases hD with ⟨e, _⟩ | ⟨_, T, o, its, m, rfl, lT, oT, rT⟩
  · exact absurd e hd
  · refine ⟨fun s us ws X l1 l2 => ?_, fun r1 r2 => r1.append r2⟩
    obtain ⟨k, e1, e2⟩ := h T kV doc pm an cdv ct us its ws l1 rT.length.symm l2
    refine BindsTo.of_looks fun M => ?_
    rw [e1]
    exact looks_items X lT oT (.of_pure e2)
end Gd

namespace Gd
open PySem PySem.Spec PyProof.Rows L2
/-! ### mirrors: rows and places -/
def whole (x : D) : Bool := isInt x && !isBool x
def isRow : D → Bool
  | .lst xs => decide (xs.length ≤ 200) && xs.all whole
  | _ => false
def spanL (s : Spn) : List Int := (List.range s.2.2.toNat).map fun k : Nat => s.1 + s.2.1 * (k : Int)
abbrev intsD (ns : List Int) : D := .lst (ns.map D.int)
def takenM (ns : List Int) (c : Cut) : List Int := (spanL (spanM c ns.length)).map fun i => ns.getD i.toNat 0
theorem shInts {n : Nat} (ns : List Int) : Sh (n + 1) (intsD ns) := .lst (.ints ns)
theorem whole_ints (ns : List Int) : (ns.map D.int).all whole = true := by
  rw [List.all_eq_true]
  intro x hx
  obtain ⟨i, _, e⟩ := List.mem_map.mp hx
  subst e
  rfl
theorem isRow_ints {ns : List Int} (h : ns.length ≤ 200) : isRow (intsD ns) = true := by
  show (decide ((ns.map D.int).length ≤ 200) && (ns.map D.int).all whole) = true
  rw [whole_ints, List.length_map, decide_eq_true h]
  rfl
def wholes : D → Bool
  | .lst xs => xs.all whole
  | _ => false
theorem wholes_ints (ns : List Int) : wholes (intsD ns) = true := whole_ints ns
theorem deq_lnil (xs : List D) : deq (.lst xs) (.lst []) = xs.isEmpty := by
  cases xs with
  | nil => rfl
  | cons x xs => rfl
theorem fm_whole : ∀ es : List D, (es.filterMap fun x => if whole x then none else some x).isEmpty = es.all whole
  | [] => rfl
  | y :: ys => by
    cases hw : whole y with
    | true => simp [List.filterMap_cons, hw, fm_whole ys]
    | false => simp [List.filterMap_cons, hw]
theorem toPys_ints : ∀ ns : List Int, toPys (ns.map D.int) = ns.map PyData.int
  | [] => rfl
  | n :: ns => by
    show toPy (.int n) :: toPys (ns.map D.int) = _
    rw [toPys_ints ns]
    rfl
theorem eqvAll_ints : ∀ (xs ys : List Int), PyData.eqvAll (xs.map PyData.int) (ys.map PyData.int) = decide (xs = ys)
  | [], [] => rfl
  | [], y :: ys => by simp [PyData.eqvAll]
  | x :: xs, [] => by simp [PyData.eqvAll]
  | x :: xs, y :: ys => by
    show ((x == y) && PyData.eqvAll (xs.map PyData.int) (ys.map PyData.int)) = _
    rw [eqvAll_ints xs ys]
    by_cases h : x = y
    · by_cases h2 : xs = ys
      · subst h h2; simp
      · simp [h, h2]
    · simp [h]
theorem deq_ints (xs ys : List Int) : deq (intsD xs) (intsD ys) = decide (xs = ys) := by
  show PyData.eqvAll (toPys (xs.map D.int)) (toPys (ys.map D.int)) = _
  rw [toPys_ints, toPys_ints, eqvAll_ints]
theorem deq_nil (xs : List Int) : deq (intsD xs) (.lst []) = xs.isEmpty := by
  cases xs with
  | nil => rfl
  | cons x xs => rfl
theorem spanL_len (s : Spn) : (spanL s).length = s.2.2.toNat := by
  unfold spanL
  rw [List.length_map, List.length_range]
theorem spanL_get {s : Spn} {i : Nat} (h : i < s.2.2.toNat) : (spanL s)[i]? = some (s.1 + s.2.1 * (i : Int)) := by
  unfold spanL
  rw [List.getElem?_map, List.getElem?_range h]
  rfl
theorem spanL_mem {s : Spn} {x : Int} : x ∈ spanL s ↔ ∃ i : Nat, i < s.2.2.toNat ∧ x = s.1 + s.2.1 * (i : Int) := by
  unfold spanL
  constructor
  · intro h
    obtain ⟨i, hi, e⟩ := List.mem_map.mp h
    exact ⟨i, List.mem_range.mp hi, e.symm⟩
  · rintro ⟨i, hi, e⟩
    exact List.mem_map.mpr ⟨i, List.mem_range.mpr hi, e.symm⟩
/-- [row[i] for i in places] -/
theorem items_map (row xs : List Int) : (xs.map D.int).map (fun x => match x with | .int i => .int (row.getD i.toNat 0) | _ => .non) = (xs.map fun i => row.getD i.toNat 0).map D.int := by
  rw [List.map_map, List.map_map]
  rfl
theorem item_at {row : List Int} {i : Int} (h0 : 0 ≤ i) (h1 : i < row.length) : atI (row.map D.int) i = some (.int (row.getD i.toNat 0)) := by
  obtain ⟨v, v1, v2⟩ := atI_of (xs := row) (i := i) h0 h1
  rw [atI_map, v1, List.getD_eq_getElem?_getD, v2]
  rfl
theorem glc_items {xc : Xc} {d : Dl} {m : M} {p : Addr} {R : List D → M → Prop} {K : PySem.W.Frag} {j k : Nat} (row xs : List Int) (hk : ∀ x : D, (d.set k (some x))[j]? = some (some (intsD row))) (hkk : ∀ x : D, (d.set k (some x))[k]? = some (some x)) (hl : xs.length < 100000) (hb : ∀ i ∈ xs, 0 ≤ i ∧ i < (row.length : Int))
    (hR : R ((xs.map fun i => row.getD i.toNat 0).map D.int) m) : glc xc (gName k) tYes (tOp (rIx K) (tVar j) (tVar k)) d p R (xs.map D.int) [] m := by
  refine glc_map (fun x => match x with | .int i => .int (row.getD i.toNat 0) | _ => .non) _ (by rw [List.length_map]; exact hl) (fun x hx acc => ?_) (by rw [items_map]; exact hR)
  obtain ⟨i, hi, e⟩ := List.mem_map.mp hx
  subst e
  refine gg_name (ge_op (ge_var (hk _) (ge_var (hkk _) (g2_ixPL (item_at (hb i hi).1 (hb i hi).2) ⟨rfl, rfl⟩))))
/-- all that is known of a cut's span in a row: within the row, bounded -/
structure SpanIn (s : Spn) (l : Int) : Prop where
  n0 : 0 ≤ s.2.2
  nl : s.2.2 ≤ l
  st : -1000000000 ≤ s.2.1 ∧ s.2.1 ≤ 1000000000
  mem : ∀ i : Nat, (i : Int) < s.2.2 → 0 ≤ s.1 + s.2.1 * (i : Int) ∧ s.1 + s.2.1 * (i : Int) < l
  zero : s.2.2 = 0 → s = (0, 1, 0)
  one : s.2.2 = 1 → s.2.1 = 1
  nz : s.2.1 ≠ 0
theorem SpanIn.all {s : Spn} {l : Int} (si : SpanIn s l) : ∀ i ∈ spanL s, 0 ≤ i ∧ i < l := fun i hi => by
  obtain ⟨k, hk, e⟩ := spanL_mem.mp hi
  rw [e]
  exact si.mem k (by omega)
theorem span_in {c : Cut} (h : CutOk c) {l : Int} (hl : 0 ≤ l) : SpanIn (spanM c l) l := by
  obtain ⟨b, e, s, he, hs, hs1, hs2, hsp, hsn⟩ := ends_b h hl
  rcases span_facts he hs with ⟨h1, _, _⟩ | ⟨n, w, hn, h1, hw, hw2, hP, hN⟩
  · rw [h1]
    exact ⟨by decide, hl, by decide, fun i hi => by have : (i : Int) < 0 := hi; omega, fun _ => rfl, fun z => absurd (show (0 : Int) = 1 from z) (by decide), by show (1 : Int) ≠ 0; decide⟩
  · rw [h1]
    refine ⟨by show 0 ≤ n; omega, ?_, ?_, fun i hi => ?_, fun z => by have : n = 0 := z; omega, fun z => by have : n = 1 := z; show (if 1 < n then s else 1) = 1; rw [if_neg (by omega)], ?_⟩
    · show n ≤ l
      rcases Int.lt_or_gt_of_ne hs with z | z
      · have := hN z; have := hsn z; omega
      · have := hP z; have := hsp z; omega
    · show -1000000000 ≤ (if 1 < n then s else 1) ∧ (if 1 < n then s else 1) ≤ 1000000000
      split <;> omega
    · have hi : (i : Int) < n := hi
      show 0 ≤ b + (if 1 < n then s else 1) * (i : Int) ∧ b + (if 1 < n then s else 1) * (i : Int) < l
      have e0 : (if 1 < n then s else 1) * (i : Int) = s * (i : Int) := by
        by_cases z : 1 < n
        · rw [if_pos z]
        · have : (i : Int) = 0 := by omega
          rw [this, Int.mul_zero, Int.mul_zero]
      rw [e0]
      rcases Int.lt_or_gt_of_ne hs with z | z
      · have a := hN z
        have b' := hsn z
        have m1 : s * (n - 1) ≤ s * (i : Int) := Int.mul_le_mul_of_nonpos_left (by omega) (by omega)
        have m2 : s * (i : Int) ≤ 0 := Int.mul_nonpos_of_nonpos_of_nonneg (by omega) (by omega)
        omega
      · have a := hP z
        have b' := hsp z
        have m1 : s * (i : Int) ≤ s * (n - 1) := Int.mul_le_mul_of_nonneg_left (by omega) (by omega)
        have m2 : 0 ≤ s * (i : Int) := Int.mul_nonneg (by omega) (by omega)
        omega
    · show (if 1 < n then s else 1) ≠ 0
      split <;> omega
/-- the places walked from the ends -/
theorem spanL_ends {c : Cut} {l b e s : Int} (he : endsM c l = (b, e, s)) (hs : s ≠ 0) : ∃ n : Nat, spanL (spanM c l) = (List.range n).map (fun k : Nat => b + s * (k : Int)) ∧ (spanM c l).2.2 = n ∧ (∀ k : Nat, k ≤ n → ((0 < s ∧ b + s * (k : Int) < e ∨ s < 0 ∧ e < b + s * (k : Int)) ↔ k < n)) := by
  rcases span_facts he hs with ⟨h1, h2, h3⟩ | ⟨n, w, hn, h1, hw, hw2, hP, hN⟩
  · refine ⟨0, by rw [h1]; rfl, by rw [h1]; rfl, fun k hk => ?_⟩
    have : k = 0 := by omega
    subst this
    simp only [Int.ofNat_zero, Int.mul_zero]
    constructor
    · rintro (⟨a, b⟩ | ⟨a, b⟩)
      · have := h2 a; omega
      · have := h3 a; omega
    · intro z; omega
  · refine ⟨n.toNat, ?_, by rw [h1]; show n = _; omega, fun k hk => ?_⟩
    · rw [h1]
      show (List.range n.toNat).map (fun k : Nat => b + (if 1 < n then s else 1) * (k : Int)) = _
      apply List.map_congr_left
      intro i hi
      have hi := List.mem_range.mp hi
      by_cases z : 1 < n
      · rw [if_pos z]
      · have : (i : Int) = 0 := by omega
        rw [this, Int.mul_zero, Int.mul_zero]
    · constructor
      · intro hh
        by_cases hk2 : k < n.toNat
        · exact hk2
        · have e1 : (k : Int) = n := by omega
          rw [e1] at hh
          have e2 : s * n = s * (n - 1) + s := by rw [Int.mul_sub, Int.mul_one]; omega
          rcases hh with ⟨a, b⟩ | ⟨a, b⟩
          · have := hP a; omega
          · have := hN a; omega
      · intro hk2
        have hk3 : (k : Int) ≤ n - 1 := by omega
        rcases Int.lt_or_gt_of_ne hs with z | z
        · right
          have := hN z
          have m1 : s * (n - 1) ≤ s * (k : Int) := Int.mul_le_mul_of_nonpos_left (by omega) hk3
          omega
        · left
          have := hP z
          have m1 : s * (k : Int) ≤ s * (n - 1) := Int.mul_le_mul_of_nonneg_left hk3 (by omega)
          omega
theorem cutOk_all : CutOk (none, none, none) := ⟨(fun i e => by cases e), (fun i e => by cases e), (fun i e => by cases e), (fun e => by cases e)⟩
theorem cutOk_back : CutOk (none, none, some (-1)) := ⟨(fun i e => by cases e), (fun i e => by cases e), (fun i e => by cases e; decide), (fun e => by cases e)⟩
theorem plain_all {l : Int} (hl : 0 ≤ l) : spanM (none, none, none) l = plainM 0 1 l := by
  have e : spanM (none, none, none) l = plainM 0 1 ((l - 0 + 1 - 1).fdiv 1) := rfl
  rw [e, fdiv_is (q := l) (r := 0) (by decide) (by omega) (by decide) (by decide)]
theorem plain_back {l : Int} (hl : 0 ≤ l) : spanM (none, none, some (-1)) l = plainM (l - 1) (-1) l := by
  have e : spanM (none, none, some (-1)) l = plainM (l - 1) (-1) ((l - 1 - (-1) - (-1) - 1).fdiv (0 - (-1))) := rfl
  rw [e, fdiv_is (q := l) (r := 0) (by decide) (by omega) (by decide) (by decide)]
theorem taken_all (ns : List Int) : takenM ns (none, none, none) = ns := by
  unfold takenM
  rw [plain_all (by omega)]
  apply List.ext_getElem?
  intro i
  unfold spanL plainM
  by_cases h : (ns.length : Int) < 1
  · rw [if_pos h]
    have : ns = [] := List.length_eq_zero_iff.mp (by omega)
    subst this
    rfl
  · rw [if_neg h]
    by_cases hi : i < ns.length
    · rw [List.getElem?_map, List.getElem?_map, List.getElem?_range (by show i < (ns.length : Int).toNat; omega)]
      show some (ns.getD ((0 : Int) + (if (1 : Int) < ns.length then 1 else 1) * (i : Int)).toNat 0) = _
      have e : ((0 : Int) + (if (1 : Int) < ns.length then 1 else 1) * (i : Int)).toNat = i := by
        have : (if (1 : Int) < ns.length then (1 : Int) else 1) = 1 := by split <;> rfl
        rw [this]; omega
      rw [e, List.getD_eq_getElem?_getD, List.getElem?_eq_getElem hi]
      rfl
    · rw [List.getElem?_eq_none (by rw [List.length_map, List.length_map, List.length_range]; show (ns.length : Int).toNat ≤ i; omega), List.getElem?_eq_none (by omega)]
theorem taken_back (ns : List Int) : takenM ns (none, none, some (-1)) = ns.reverse := by
  unfold takenM
  rw [plain_back (by omega)]
  apply List.ext_getElem?
  intro i
  unfold spanL plainM
  by_cases h : (ns.length : Int) < 1
  · rw [if_pos h]
    have : ns = [] := List.length_eq_zero_iff.mp (by omega)
    subst this
    rfl
  · rw [if_neg h]
    by_cases hi : i < ns.length
    · rw [List.getElem?_map, List.getElem?_map, List.getElem?_range (by show i < (ns.length : Int).toNat; omega), List.getElem?_reverse hi]
      show some (ns.getD ((ns.length : Int) - 1 + (if (1 : Int) < ns.length then -1 else 1) * (i : Int)).toNat 0) = _
      have e : ((ns.length : Int) - 1 + (if (1 : Int) < ns.length then -1 else 1) * (i : Int)).toNat = ns.length - 1 - i := by
        split
        · omega
        · have : i = 0 := by omega
          subst this
          omega
      rw [e, List.getD_eq_getElem?_getD, List.getElem?_eq_getElem (by omega)]
      rfl
    · rw [List.getElem?_eq_none (by rw [List.length_map, List.length_map, List.length_range]; show (ns.length : Int).toNat ≤ i; omega), List.getElem?_eq_none (by rw [List.length_reverse]; omega)]
end Gd

namespace Gd
open PySem PySem.Spec PyProof.Rows L2
section
variable {xc : Xc} {d : Dl} {m : M} {Q : D → M → Prop} {E : De} {te : TE} {tt : TT} {ts : TS} {g : TG} {aa : TA} {p : Addr} {R : List D → M → Prop}
theorem gs_par3 {i j l : Nat} (h : ga xc aa d m fun xs m1 => ∃ x y z, xs = [x, y, z] ∧ E.nx (((d.set i (some x)).set j (some y)).set l (some z)) m1) : gs xc (tPar3 i j l aa) E d m := fun sg H s e E' ok =>
  h sg H s e _ fun vs H1 xs m1 s1 r1 t1 ⟨x, y, z, hx, q⟩ => by
    subst hx
    cases r1 with | cons r1 r2 =>
    cases r2 with | cons r2 r3 =>
    cases r3 with | cons r3 r4 =>
    cases r4
    exact ⟨_, _, _, rfl, ok.nx _ H1 _ m1 s1 t1 ((((e.step s1).set r1 i).set r2 j).set r3 l) q⟩
theorem ex_par3 {x y z : D} {Q : D → D → D → Prop} (q : Q x y z) : ∃ a b c, [x, y, z] = [a, b, c] ∧ Q a b c := ⟨x, y, z, rfl, q⟩
theorem ex_par2 {x y : D} {Q : D → D → Prop} (q : Q x y) : ∃ a b, [x, y] = [a, b] ∧ Q a b := ⟨x, y, rfl, q⟩
/-- a comprehension by an invariant -/
theorem glc_inv (P : Nat → List D → M → Prop) (ds : List D)
    (hs : ∀ (i : Nat) x acc m, ds[i]? = some x → P i acc m → gg xc g x d ((p, .lst acc) :: m) fun d2 m2 => gt xc tt d2 m2 fun b m3 => if b = true then ge xc te d2 m3 fun y m4 => ∃ m', m4 = (p, .lst acc) :: m' ∧ acc.length < 100000 ∧ P (i + 1) (acc ++ [y]) m' else ∃ m', m3 = (p, .lst acc) :: m' ∧ P (i + 1) acc m')
    (hd : ∀ acc m, P ds.length acc m → R acc m) (h0 : P 0 [] m) : glc xc g tt te d p R ds [] m := by
  have all : ∀ (k i : Nat), i + k = ds.length → ∀ acc m, P i acc m → glc xc g tt te d p R (ds.drop i) acc m := by
    intro k
    induction k with
    | zero =>
      intro i hi acc m h
      have e0 : i = ds.length := by omega
      subst e0
      rw [List.drop_length]
      exact hd acc m h
    | succ k ih =>
      intro i hi acc m h
      have hl : i < ds.length := by omega
      rw [List.drop_eq_getElem_cons hl]
      refine (hs i ds[i] acc m (List.getElem?_eq_getElem hl) h).mono fun d2 m2 q => q.mono fun b m3 q => ?_
      cases b with
      | true => exact ge.mono (show ge xc te d2 m3 _ from q) fun y m4 ⟨m', e, hl, q⟩ => ⟨m', e, hl, ih (i + 1) (by omega) _ _ q⟩
      | false =>
        obtain ⟨m', e, q⟩ := (show ∃ m', m3 = (p, .lst acc) :: m' ∧ P (i + 1) acc m' from q)
        exact ⟨m', e, ih (i + 1) (by omega) _ _ q⟩
  have := all ds.length 0 (by omega) [] m h0
  rwa [List.drop_zero] at this
end
theorem cutL_map {α β : Type} (f : α → β) (xs : List α) (lo hi : Option Int) : cutL (xs.map f) lo hi = (cutL xs lo hi).map f := by
  unfold cutL
  rw [List.length_map, List.map_take, List.map_drop]
theorem cutL_take {α : Type} (xs : List α) {k : Int} (h0 : 0 ≤ k) : cutL xs none (some k) = xs.take k.toNat := by
  unfold cutL
  obtain ⟨n, rfl⟩ := Int.eq_ofNat_of_zero_le h0
  rw [HT.sIx_none, show HT.sIx xs.length xs.length (some (n : Int)) = min n xs.length from HT.sIx_nat xs.length xs.length n]
  rw [List.drop_zero, Nat.sub_zero]
  show xs.take (min n xs.length) = xs.take n
  by_cases h : n ≤ xs.length
  · rw [Nat.min_eq_left h]
  · rw [Nat.min_eq_right (by omega), List.take_length, List.take_of_length_le (by omega)]
theorem cutL_drop {α : Type} (xs : List α) {k : Int} (h0 : 0 ≤ k) : cutL xs (some k) none = xs.drop k.toNat := by
  unfold cutL
  obtain ⟨n, rfl⟩ := Int.eq_ofNat_of_zero_le h0
  rw [HT.sIx_none, show HT.sIx xs.length 0 (some (n : Int)) = min n xs.length from HT.sIx_nat xs.length 0 n]
  show (xs.drop (min n xs.length)).take (xs.length - min n xs.length) = xs.drop n
  by_cases h : n ≤ xs.length
  · rw [Nat.min_eq_left h, List.take_of_length_le (by rw [List.length_drop]; omega)]
  · rw [Nat.min_eq_right (by omega), List.drop_length, List.drop_of_length_le (by omega), List.take_nil]
/-! list(range(n)) -/
def rgI (n : Int) : List Int := (List.range n.toNat).map fun i : Nat => (i : Int)
theorem ge_listRg {xc : Xc} {d : Dl} {m : M} {Q : D → M → Prop} {ta : TE} (h : ge xc ta d m fun x m1 => ∃ n : Int, x = .int n ∧ (0 ≤ n ∧ n ≤ 100000) ∧ Q (intsD (rgI n)) m1) : ge xc (tLstRg (tRg1 ta)) d m Q := fun sg H s e Q' k =>
  h sg H s e _ fun v H1 x m1 s1 r1 t1 ⟨n, hx, ⟨h0, h1⟩, q⟩ => by
    subst hx
    refine ⟨n, r1.int_inv, RgOk.of_le (by decide) (by omega) (by decide) h0, fun p np => ?_⟩
    have e : rgV 0 n = (rgI n).map V.int := by
      unfold rgV rgI
      rw [List.map_map, Int.sub_zero]
      apply List.map_congr_left
      intro i _
      show V.int (0 + (i : Int)) = V.int (i : Int)
      rw [Int.zero_add]
    rw [e]
    exact k _ _ (intsD (rgI n)) m1 (s1.trans (.fresh np)) (.lst (t1.off_new np) upd_same (Reps.ints _)) (t1.fresh np) q
/-! ### mirrors: chains -/
abbrev chainD (cs : List Cut) : D := .lst (cs.map cutD)
def isChain : D → Bool
  | .lst xs => decide (xs.length ≤ 6) && xs.all isCut
  | _ => false
structure ChainOk (cs : List Cut) : Prop where
  len : cs.length ≤ 6
  all : ∀ c ∈ cs, CutOk c
theorem shChain {n : Nat} (cs : List Cut) : Sh (n + 2) (chainD cs) := .lst (.of_all fun d hd => by
  obtain ⟨c, _, e⟩ := List.mem_map.mp hd
  rw [← e]
  exact shCut c)
theorem ChainOk.is {cs : List Cut} (h : ChainOk cs) : isChain (chainD cs) = true := by
  show (decide ((cs.map cutD).length ≤ 6) && (cs.map cutD).all isCut) = true
  have e : (cs.map cutD).all isCut = true := by
    rw [List.all_eq_true]
    intro x hx
    obtain ⟨c, hc, e⟩ := List.mem_map.mp hx
    rw [← e]
    exact (h.all c hc).is
  rw [e, List.length_map, decide_eq_true h.len]
  rfl
/-- a span of a span -/
def comp (s t : Spn) : Spn := plainM (s.1 + s.2.1 * t.1) (s.2.1 * t.2.1) t.2.2
def stepM (s : Spn) (c : Cut) : Spn := comp s (spanM c s.2.2)
def throughM (cs : List Cut) (l : Int) : Spn := cs.foldl stepM (plainM 0 1 l)
def cutOfM (s : Spn) : Cut := if s.2.2 = 0 then (some 0, some 0, some 1) else
  (some s.1, if s.1 + s.2.1 * (s.2.2 - 1) + (if 0 < s.2.1 then 1 else -1) < 0 then none else some (s.1 + s.2.1 * (s.2.2 - 1) + (if 0 < s.2.1 then 1 else -1)), some s.2.1)
/-- in the told form -/
structure Nf (s : Spn) : Prop where
  n0 : 0 ≤ s.2.2
  zero : s.2.2 = 0 → s = (0, 1, 0)
  one : s.2.2 = 1 → s.2.1 = 1
theorem SpanIn.nf {s : Spn} {l : Int} (h : SpanIn s l) : Nf s := ⟨h.n0, h.zero, h.one⟩
theorem plain_nf (f s n : Int) : Nf (plainM f s n) := by
  unfold plainM
  by_cases h : n < 1
  · rw [if_pos h]
    exact ⟨by decide, fun _ => rfl, fun z => absurd (show (0 : Int) = 1 from z) (by decide)⟩
  · rw [if_neg h]
    exact ⟨by show 0 ≤ n; omega, fun z => absurd (show n = 0 from z) (by omega), fun z => by show (if 1 < n then s else 1) = 1; have : n = 1 := z; rw [if_neg (by omega)]⟩
theorem Nf.plain {s : Spn} (h : Nf s) : plainM s.1 s.2.1 s.2.2 = s := by
  obtain ⟨f, st, n⟩ := s
  have h0 : 0 ≤ n := h.n0
  show plainM f st n = (f, st, n)
  unfold plainM
  by_cases z : n < 1
  · rw [if_pos z]
    exact (h.zero (show n = 0 by omega)).symm
  · rw [if_neg z]
    by_cases z1 : 1 < n
    · rw [if_pos z1]
    · rw [if_neg z1, show st = 1 from h.one (show n = 1 by omega)]
theorem plain_in {l : Int} (h0 : 0 ≤ l) : SpanIn (plainM 0 1 l) l := by
  have := span_in cutOk_all h0
  rwa [plain_all h0] at this
theorem comp_in {s t : Spn} {l : Int} (hl : l ≤ 1000000000) (h : SpanIn s l) (k : SpanIn t s.2.2) : SpanIn (comp s t) l := by
  obtain ⟨f, st, n⟩ := s
  obtain ⟨f2, s2, n2⟩ := t
  have kn : n2 ≤ n := k.nl
  have hn : n ≤ l := h.nl
  have nf := plain_nf (f + st * f2) (st * s2) n2
  unfold comp
  show SpanIn (plainM (f + st * f2) (st * s2) n2) l
  have mem : ∀ i : Nat, (i : Int) < n2 → 0 ≤ f + st * f2 + st * s2 * (i : Int) ∧ f + st * f2 + st * s2 * (i : Int) < l := fun i hi => by
    obtain ⟨a, b⟩ := k.mem i hi
    have a : 0 ≤ f2 + s2 * (i : Int) := a
    have b : f2 + s2 * (i : Int) < n := b
    have := h.mem (f2 + s2 * (i : Int)).toNat (by show ((f2 + s2 * (i : Int)).toNat : Int) < n; omega)
    have e : ((f2 + s2 * (i : Int)).toNat : Int) = f2 + s2 * (i : Int) := by omega
    rw [e] at this
    have e2 : f + st * f2 + st * s2 * (i : Int) = f + st * (f2 + s2 * (i : Int)) := by rw [Int.mul_add, Int.mul_assoc, Int.add_assoc]
    rw [e2]
    exact this
  by_cases z : n2 < 1
  · have e : plainM (f + st * f2) (st * s2) n2 = (0, 1, 0) := by unfold plainM; rw [if_pos z]
    rw [e]
    have := h.n0
    have hn0 : 0 ≤ n := h.n0
    exact ⟨by decide, by show 0 ≤ l; omega, by decide, fun i hi => by have : (i : Int) < 0 := hi; omega, fun _ => rfl, fun z => absurd (show (0 : Int) = 1 from z) (by decide), by show (1 : Int) ≠ 0; decide⟩
  · have e : plainM (f + st * f2) (st * s2) n2 = (f + st * f2, if 1 < n2 then st * s2 else 1, n2) := by unfold plainM; rw [if_neg z]
    rw [e] at nf ⊢
    have mem2 : ∀ i : Nat, (i : Int) < n2 → 0 ≤ f + st * f2 + (if 1 < n2 then st * s2 else 1) * (i : Int) ∧ f + st * f2 + (if 1 < n2 then st * s2 else 1) * (i : Int) < l := fun i hi => by
      have := mem i hi
      by_cases z1 : 1 < n2
      · rw [if_pos z1]; exact this
      · have : (i : Int) = 0 := by omega
        have h0 := mem 0 (by omega)
        rw [this, Int.mul_zero]
        simp only [Int.ofNat_zero, Int.mul_zero] at h0
        exact h0
    have z3 : st ≠ 0 := h.nz
    have z4 : s2 ≠ 0 := k.nz
    refine ⟨nf.n0, by show n2 ≤ l; omega, ?_, mem2, nf.zero, nf.one, ?_⟩
    · show -1000000000 ≤ (if 1 < n2 then st * s2 else 1) ∧ (if 1 < n2 then st * s2 else 1) ≤ 1000000000
      by_cases z1 : 1 < n2
      · have m0 := mem2 0 (by omega)
        have m1 := mem2 1 (by omega)
        rw [if_pos z1] at m0 m1 ⊢
        simp only [Int.ofNat_zero, Int.mul_zero, Int.natCast_one, Int.mul_one] at m0 m1
        omega
      · rw [if_neg z1]; decide
    · show (if 1 < n2 then st * s2 else 1) ≠ 0
      split
      · exact Int.mul_ne_zero z3 z4
      · decide
theorem step_in {s : Spn} {l : Int} (hl : l ≤ 1000000000) (h : SpanIn s l) {c : Cut} (hc : CutOk c) : SpanIn (stepM s c) l := comp_in hl h (span_in hc h.n0)
theorem fold_in {l : Int} (hl : l ≤ 1000000000) : ∀ {cs : List Cut} {s : Spn}, (∀ c ∈ cs, CutOk c) → SpanIn s l → SpanIn (cs.foldl stepM s) l
  | [], _, _, h => h
  | c :: cs, s, hc, h => fold_in hl (cs := cs) (fun x hx => hc x (List.mem_cons_of_mem _ hx)) (step_in hl h (hc c List.mem_cons_self))
theorem through_in {cs : List Cut} {l : Int} (h0 : 0 ≤ l) (hl : l ≤ 1000000000) (hc : ∀ c ∈ cs, CutOk c) : SpanIn (throughM cs l) l := fold_in hl hc (plain_in h0)
/-- the whole row ahead of a span -/
theorem comp_plain {s : Spn} {l : Int} (h : SpanIn s l) : comp (plainM 0 1 l) s = s := by
  unfold comp plainM
  by_cases z : l < 1
  · rw [if_pos z]
    have := h.nl
    have := h.n0
    have e := h.zero (by omega)
    rw [e]
    rfl
  · rw [if_neg z]
    have e : (if 1 < l then (1 : Int) else 1) = 1 := by split <;> rfl
    show plainM (0 + (if 1 < l then (1 : Int) else 1) * s.1) ((if 1 < l then (1 : Int) else 1) * s.2.1) s.2.2 = s
    rw [e, Int.one_mul, Int.one_mul, Int.zero_add]
    exact h.nf.plain
theorem plain_n {l : Int} (h : 0 ≤ l) : (plainM 0 1 l).2.2 = l := by
  unfold plainM
  by_cases z : l < 1
  · rw [if_pos z]
    show (0 : Int) = l
    omega
  · rw [if_neg z]
/-- comp of comp -/
theorem comp_assoc {s t u : Spn} (hn : 0 ≤ u.2.2) (ht : u.2.2 ≤ t.2.2) (hu : u.2.2 = 1 → u.2.1 = 1) (h1 : t.2.2 = 1 → 0 < u.2.2 → u.1 = 0) : comp (comp s t) u = comp s (comp t u) := by
  obtain ⟨f, st, n⟩ := s
  obtain ⟨f2, s2, n2⟩ := t
  obtain ⟨f3, s3, n3⟩ := u
  have hn : 0 ≤ n3 := hn
  have ht : n3 ≤ n2 := ht
  have hu : n3 = 1 → s3 = 1 := hu
  have h1 : n2 = 1 → 0 < n3 → f3 = 0 := h1
  show plainM ((plainM (f + st * f2) (st * s2) n2).1 + (plainM (f + st * f2) (st * s2) n2).2.1 * f3) ((plainM (f + st * f2) (st * s2) n2).2.1 * s3) n3 = plainM (f + st * (plainM (f2 + s2 * f3) (s2 * s3) n3).1) (st * (plainM (f2 + s2 * f3) (s2 * s3) n3).2.1) (plainM (f2 + s2 * f3) (s2 * s3) n3).2.2
  by_cases z3 : n3 < 1
  · have e1 : ∀ a b : Int, plainM a b n3 = (0, 1, 0) := fun a b => by unfold plainM; rw [if_pos z3]
    rw [e1, e1]
    unfold plainM
    rfl
  · have e3 : ∀ a b : Int, plainM a b n3 = (a, if 1 < n3 then b else 1, n3) := fun a b => by unfold plainM; rw [if_neg z3]
    have e2 : ∀ a b : Int, plainM a b n2 = (a, if 1 < n2 then b else 1, n2) := fun a b => by unfold plainM; rw [if_neg (by omega)]
    rw [e2, e3, e3]
    show (f + st * f2 + (if 1 < n2 then st * s2 else 1) * f3, if 1 < n3 then (if 1 < n2 then st * s2 else 1) * s3 else 1, n3) = plainM (f + st * (f2 + s2 * f3)) (st * (if 1 < n3 then s2 * s3 else 1)) n3
    rw [e3]
    by_cases z2 : 1 < n2
    · rw [if_pos z2]
      have a1 : f + st * f2 + st * s2 * f3 = f + st * (f2 + s2 * f3) := by rw [Int.mul_add, Int.mul_assoc, Int.add_assoc]
      rw [a1]
      by_cases z1 : 1 < n3
      · rw [if_pos z1, if_pos z1, if_pos z1, Int.mul_assoc]
      · rw [if_neg z1, if_neg z1]
    · have hz := h1 (by omega) (by omega)
      subst hz
      rw [if_neg (show ¬ 1 < n3 by omega), if_neg (show ¬ 1 < n3 by omega), Int.mul_zero, Int.mul_zero, Int.add_zero, Int.add_zero]
theorem comp_assoc' {s t u : Spn} (hu : SpanIn u t.2.2) : comp (comp s t) u = comp s (comp t u) := by
  refine comp_assoc hu.n0 hu.nl hu.one fun h1 h2 => ?_
  have := hu.mem 0 (by omega)
  simp only [Int.ofNat_zero, Int.mul_zero, Int.add_zero] at this
  omega
theorem comp_n {s t : Spn} (h : 0 ≤ t.2.2) : (comp s t).2.2 = t.2.2 := by
  unfold comp plainM
  by_cases z : t.2.2 < 1
  · rw [if_pos z]
    show (0 : Int) = t.2.2
    omega
  · rw [if_neg z]
/-- chains end to end -/
theorem fold_comp {n : Int} (hn : 0 ≤ n) (hn2 : n ≤ 1000000000) : ∀ {cs : List Cut} {s t : Spn}, (∀ c ∈ cs, CutOk c) → SpanIn t n → cs.foldl stepM (comp s t) = comp s (cs.foldl stepM t)
  | [], _, _, _, _ => rfl
  | c :: cs, s, t, hc, ht => by
    have h1 := span_in (hc c List.mem_cons_self) ht.n0
    have e : stepM (comp s t) c = comp s (stepM t c) := by
      unfold stepM
      rw [comp_n ht.n0]
      exact comp_assoc' h1
    show cs.foldl stepM (stepM (comp s t) c) = _
    rw [e]
    exact fold_comp hn hn2 (fun x hx => hc x (List.mem_cons_of_mem _ hx)) (step_in hn2 ht (hc c List.mem_cons_self))
theorem comp_one {s : Spn} (h : Nf s) : comp s (plainM 0 1 s.2.2) = s := by
  unfold comp
  have e := plain_n h.n0
  rw [e]
  by_cases z : s.2.2 < 1
  · have := h.n0
    rw [h.zero (by omega)]
    rfl
  · have e1 : plainM 0 1 s.2.2 = (0, if 1 < s.2.2 then 1 else 1, s.2.2) := by unfold plainM; rw [if_neg z]
    have e2 : (if 1 < s.2.2 then (1 : Int) else 1) = 1 := by split <;> rfl
    rw [e1, e2]
    show plainM (s.1 + s.2.1 * 0) (s.2.1 * 1) s.2.2 = s
    rw [Int.mul_zero, Int.add_zero, Int.mul_one]
    exact h.plain
theorem through_append {xs ys : List Cut} {l : Int} (h0 : 0 ≤ l) (hl : l ≤ 1000000000) (hx : ∀ c ∈ xs, CutOk c) (hy : ∀ c ∈ ys, CutOk c) : throughM (xs ++ ys) l = comp (throughM xs l) (throughM ys (throughM xs l).2.2) := by
  have hi := through_in h0 hl hx
  unfold throughM at *
  rw [List.foldl_append]
  have e : xs.foldl stepM (plainM 0 1 l) = comp (xs.foldl stepM (plainM 0 1 l)) (plainM 0 1 (xs.foldl stepM (plainM 0 1 l)).2.2) := (comp_one hi.nf).symm
  have hb : (xs.foldl stepM (plainM 0 1 l)).2.2 ≤ 1000000000 := by have := hi.nl; omega
  conv => lhs; rw [e]
  exact fold_comp hi.n0 hb hy (plain_in hi.n0)
theorem through_one {c : Cut} {l : Int} (h0 : 0 ≤ l) (hc : CutOk c) : throughM [c] l = spanM c l := by
  show stepM (plainM 0 1 l) c = _
  unfold stepM
  rw [plain_n h0]
  exact comp_plain (span_in hc h0)
theorem through_snoc {cs : List Cut} {c : Cut} {l : Int} : throughM (cs ++ [c]) l = stepM (throughM cs l) c := by
  unfold throughM
  rw [List.foldl_append]
  rfl
/-- the one cut takes the span -/
theorem span_cutOf {s : Spn} {l : Int} (h0 : 0 ≤ l) (h : SpanIn s l) : spanM (cutOfM s) l = s := by
  obtain ⟨f, st, n⟩ := s
  have n0 : 0 ≤ n := h.n0
  have nl : n ≤ l := h.nl
  by_cases hn : n = 0
  · have e := h.zero hn
    rw [e]
    show spanM (if (0 : Int) = 0 then (some 0, some 0, some 1) else _) l = _
    rw [if_pos rfl]
    have e2 : edgeM (some 0) l 0 0 l = 0 := edge_mid rfl (by decide) h0
    have e3 : edgeM (some 0) l l 0 l = 0 := edge_mid rfl (by decide) h0
    have he : endsM (some 0, some 0, some 1) l = (0, 0, 1) := by
      show (edgeM (some 0) l 0 0 l, edgeM (some 0) l l 0 l, (1 : Int)) = _
      rw [e2, e3]
    unfold spanM
    rw [he]
    rfl
  · have m0 := h.mem 0 (by show ((0 : Nat) : Int) < n; omega)
    have m1 := h.mem (n - 1).toNat (by show ((n - 1).toNat : Int) < n; omega)
    have en : ((n - 1).toNat : Int) = n - 1 := by omega
    rw [en] at m1
    simp only [Int.ofNat_zero, Int.mul_zero, Int.add_zero] at m0
    have m0 : 0 ≤ f ∧ f < l := m0
    have m1 : 0 ≤ f + st * (n - 1) ∧ f + st * (n - 1) < l := m1
    have hz : st ≠ 0 := h.nz
    show spanM (if n = 0 then _ else (some f, if f + st * (n - 1) + (if 0 < st then 1 else -1) < 0 then none else some (f + st * (n - 1) + (if 0 < st then 1 else -1)), some st)) l = _
    rw [if_neg hn]
    have one : n = 1 → st = 1 := fun z => h.one z
    have fin : (f, if 1 < n then st else 1, n) = ((f, st, n) : Spn) := by
      by_cases z : 1 < n
      · rw [if_pos z]
      · rw [if_neg z, one (by omega)]
    by_cases hp : 0 < st
    · rw [if_pos hp, if_neg (by omega)]
      have he : endsM (some f, some (f + st * (n - 1) + 1), some st) l = (f, f + st * (n - 1) + 1, st) := by
        simp only [endsM, if_pos hp]
        rw [edge_mid (if_neg (by omega)) m0.1 (by omega), edge_mid (if_neg (by omega)) (by omega) (by omega)]
      unfold spanM
      rw [he]
      show (if 0 < st then plainM f st ((f + st * (n - 1) + 1 - f + st - 1).fdiv st) else _) = _
      rw [if_pos hp, fdiv_is (q := n) (r := 0) hp (by have : st * n = st * (n - 1) + st := by rw [Int.mul_sub, Int.mul_one]; omega
                                                      omega) (by decide) hp]
      unfold plainM
      rw [if_neg (by omega)]
      exact fin
    · rw [if_neg hp]
      have hg : ∀ e' : Option Int, (e' = none ∧ f + st * (n - 1) = 0) ∨ (e' = some (f + st * (n - 1) + -1) ∧ 0 < f + st * (n - 1)) → endsM (some f, e', some st) l = (f, f + st * (n - 1) - 1, st) := by
        intro e' h'
        simp only [endsM, if_neg hp]
        rw [edge_mid (k := f) (if_neg (by omega)) (by omega) (by omega)]
        rcases h' with ⟨a, b⟩ | ⟨a, b⟩
        · subst a
          show (f, (-1 : Int), st) = _
          rw [b]
          rfl
        · subst a
          rw [edge_mid (k := f + st * (n - 1) + -1) (if_neg (by omega)) (by omega) (by omega)]
          rfl
      have key : ∀ e' : Option Int, endsM (some f, e', some st) l = (f, f + st * (n - 1) - 1, st) → spanM (some f, e', some st) l = (f, st, n) := by
        intro e' he
        unfold spanM
        rw [he]
        show (if 0 < st then _ else plainM f st ((f - (f + st * (n - 1) - 1) - st - 1).fdiv (0 - st))) = _
        rw [if_neg hp, fdiv_is (q := n) (r := 0) (show 0 < 0 - st by omega) (by
          have : (0 - st) * n = -(st * n) := by rw [Int.zero_sub, Int.neg_mul]
          have : st * n = st * (n - 1) + st := by rw [Int.mul_sub, Int.mul_one]; omega
          omega) (by decide) (by omega)]
        unfold plainM
        rw [if_neg (by omega)]
        exact fin
      by_cases hb : f + st * (n - 1) + -1 < 0
      · rw [if_pos hb]
        exact key none (hg none (.inl ⟨rfl, by omega⟩))
      · rw [if_neg hb]
        exact key _ (hg _ (.inr ⟨rfl, by omega⟩))
theorem cutOf_ok {s : Spn} {l : Int} (hl : l ≤ 1000000000) (h : SpanIn s l) : CutOk (cutOfM s) := by
  obtain ⟨f, st, n⟩ := s
  have n0 : 0 ≤ n := h.n0
  unfold cutOfM
  by_cases hn : n = 0
  · rw [if_pos hn]
    exact ⟨(fun i e => by cases e; decide), (fun i e => by cases e; decide), (fun i e => by cases e; decide), (fun e => by cases e)⟩
  · rw [if_neg hn]
    have m0 := h.mem 0 (by show ((0 : Nat) : Int) < n; omega)
    have m1 := h.mem (n - 1).toNat (by show ((n - 1).toNat : Int) < n; omega)
    have en : ((n - 1).toNat : Int) = n - 1 := by omega
    rw [en] at m1
    simp only [Int.ofNat_zero, Int.mul_zero, Int.add_zero] at m0
    have m0 : 0 ≤ f ∧ f < l := m0
    have m1 : 0 ≤ f + st * (n - 1) ∧ f + st * (n - 1) < l := m1
    have hz : st ≠ 0 := h.nz
    have hs : -1000000000 ≤ st ∧ st ≤ 1000000000 := h.st
    refine ⟨fun i e => ?_, fun i e => ?_, fun i e => ?_, fun e => ?_⟩
    · cases e; exact ⟨by show -1000000000 ≤ f; omega, by show f ≤ 1000000000; omega⟩
    · have e : (if f + st * (n - 1) + (if 0 < st then 1 else -1) < 0 then none else some (f + st * (n - 1) + (if 0 < st then 1 else -1))) = some i := e
      generalize hg : (if 0 < st then (1 : Int) else -1) = g at e
      have hg2 : g = 1 ∨ g = -1 := by rw [← hg]; split <;> simp
      by_cases hh : f + st * (n - 1) + g < 0
      · rw [if_pos hh] at e; cases e
      · rw [if_neg hh] at e
        cases e
        omega
    · cases e; exact hs
    · have e : some st = some 0 := e
      cases e
      exact hz rfl
theorem rev_step {s : Spn} (hn : 0 ≤ s.2.2) : stepM s (none, none, some (-1)) = plainM (s.1 + s.2.1 * (s.2.2 - 1)) (0 - s.2.1) s.2.2 := by
  obtain ⟨f, st, n⟩ := s
  have hn : 0 ≤ n := hn
  show comp (f, st, n) (spanM (none, none, some (-1)) n) = plainM (f + st * (n - 1)) (0 - st) n
  rw [plain_back hn]
  by_cases z : n < 1
  · have e : ∀ a b : Int, plainM a b n = (0, 1, 0) := fun a b => by unfold plainM; rw [if_pos z]
    rw [e, e]
    rfl
  · have e : ∀ a b : Int, plainM a b n = (a, if 1 < n then b else 1, n) := fun a b => by unfold plainM; rw [if_neg z]
    rw [e (n - 1) (-1)]
    show plainM (f + st * (n - 1)) (st * (if 1 < n then -1 else 1)) n = _
    rw [e, e]
    by_cases w : 1 < n
    · rw [if_pos w, if_pos w, if_pos w, show st * -1 = 0 - st by omega]
    · rw [if_neg w, if_neg w]
theorem rev_twice {l : Int} (h : 0 ≤ l) : throughM [(none, none, some (-1)), (none, none, some (-1))] l = plainM 0 1 l := by
  show stepM (stepM (plainM 0 1 l) (none, none, some (-1))) (none, none, some (-1)) = _
  have e := plain_n h
  have h1 : stepM (plainM 0 1 l) (none, none, some (-1)) = plainM ((plainM 0 1 l).1 + (plainM 0 1 l).2.1 * (l - 1)) (0 - (plainM 0 1 l).2.1) l := by
    have := rev_step (s := plainM 0 1 l) (by rw [e]; exact h)
    rwa [e] at this
  have h2 : ∀ a b : Int, (plainM a b l).2.2 = l := fun a b => by
    unfold plainM
    by_cases z : l < 1
    · rw [if_pos z]; show (0 : Int) = l; omega
    · rw [if_neg z]
  rw [h1, rev_step (by rw [h2]; exact h), h2]
  by_cases z : l < 1
  · have e : ∀ a b : Int, plainM a b l = (0, 1, 0) := fun a b => by unfold plainM; rw [if_pos z]
    rw [e, e]
  · have e : ∀ a b : Int, plainM a b l = (a, if 1 < l then b else 1, l) := fun a b => by unfold plainM; rw [if_neg z]
    rw [e 0 1, e, e]
    by_cases w : 1 < l
    · simp only [if_pos w]
      rw [show 0 + 1 * (l - 1) + (0 - 1) * (l - 1) = 0 by omega]
      rfl
    · have : l = 1 := by omega
      subst this
      rfl
theorem eqv_oi (a b : Option Int) : PyData.eqv (toPy (oi a)) (toPy (oi b)) = decide (a = b) := by
  cases a with
  | none => cases b with
    | none => rfl
    | some j => rfl
  | some i => cases b with
    | none => rfl
    | some j =>
      show (i == j) = decide (some i = some j)
      by_cases h : i = j
      · subst h; simp
      · simp [h]
theorem deq_cut (s t : Cut) : deq (cutD s) (cutD t) = decide (s = t) := by
  obtain ⟨a, b, c⟩ := s
  obtain ⟨x, y, z⟩ := t
  show (PyData.eqv (toPy (oi a)) (toPy (oi x)) && (PyData.eqv (toPy (oi b)) (toPy (oi y)) && (PyData.eqv (toPy (oi c)) (toPy (oi z)) && true))) = _
  rw [eqv_oi, eqv_oi, eqv_oi]
  by_cases h1 : a = x
  · by_cases h2 : b = y
    · by_cases h3 : c = z
      · subst h1 h2 h3; simp
      · simp [h1, h2, h3]
    · simp [h1, h2]
  · simp [h1]
/-- places of places -/
theorem comp_list {s t : Spn} (h : SpanIn t s.2.2) : spanL (comp s t) = (spanL t).map fun i => s.1 + s.2.1 * i := by
  obtain ⟨f, st, n⟩ := s
  obtain ⟨f2, s2, n2⟩ := t
  have n0 : 0 ≤ n2 := h.n0
  show spanL (plainM (f + st * f2) (st * s2) n2) = (spanL (f2, s2, n2)).map fun i => f + st * i
  unfold spanL plainM
  rw [List.map_map]
  by_cases z : n2 < 1
  · rw [if_pos z]
    have : n2 = 0 := by omega
    subst this
    rfl
  · rw [if_neg z]
    apply List.map_congr_left
    intro i hi
    have hi : i < n2.toNat := List.mem_range.mp hi
    show f + st * f2 + (if 1 < n2 then st * s2 else 1) * (i : Int) = f + st * (f2 + s2 * (i : Int))
    by_cases z1 : 1 < n2
    · rw [if_pos z1, Int.mul_add, Int.mul_assoc, Int.add_assoc]
    · have : (i : Int) = 0 := by omega
      rw [this, Int.mul_zero, Int.mul_zero, Int.add_zero, Int.add_zero]
theorem plain_list {l : Int} (h : 0 ≤ l) : spanL (plainM 0 1 l) = rgI l := by
  unfold spanL rgI plainM
  by_cases z : l < 1
  · rw [if_pos z]
    have : l = 0 := by omega
    subst this
    rfl
  · rw [if_neg z]
    apply List.map_congr_left
    intro i _
    show (0 : Int) + (if 1 < l then 1 else 1) * (i : Int) = (i : Int)
    have : (if 1 < l then (1 : Int) else 1) = 1 := by split <;> rfl
    rw [this]; omega
/-- places of what a span took -/
theorem step_list {s : Spn} {c : Cut} (hn : 0 ≤ s.2.2) (hc : CutOk c) : spanL (stepM s c) = (spanL (spanM c s.2.2)).map fun i => (spanL s).getD i.toNat 0 := by
  have h := span_in hc hn
  unfold stepM
  rw [comp_list h]
  apply List.map_congr_left
  intro i hi
  obtain ⟨a, b⟩ := h.all i hi
  rw [List.getD_eq_getElem?_getD, spanL_get (by omega)]
  show _ = s.1 + s.2.1 * ((i.toNat : Nat) : Int)
  rw [show ((i.toNat : Nat) : Int) = i by omega]
/-- the law's own reckoning, not brought into the told form in between -/
structure Lk (a b : Spn) : Prop where
  n : a.2.2 = b.2.2
  f : 0 < a.2.2 → a.1 = b.1
  s : 1 < a.2.2 → a.2.1 = b.2.1
theorem Lk.step {a b t : Spn} {l : Int} (h : Lk a b) (hb : SpanIn b l) (ht : SpanIn t b.2.2) : Lk (a.1 + a.2.1 * t.1, a.2.1 * t.2.1, t.2.2) (comp b t) := by
  obtain ⟨f, st, n⟩ := a
  obtain ⟨f', st', n'⟩ := b
  obtain ⟨f2, s2, n2⟩ := t
  have e : n = n' := h.n
  subst e
  have tn : n2 ≤ n := ht.nl
  have t0 : 0 ≤ n2 := ht.n0
  have hf : 0 < n → f = f' := h.f
  have hs : 1 < n → st = st' := h.s
  have z2 : n = 1 → 0 < n2 → f2 = 0 := fun z z' => by
    have := ht.mem 0 (by show ((0 : Nat) : Int) < n2; omega)
    simp only [Int.ofNat_zero, Int.mul_zero, Int.add_zero] at this
    have : 0 ≤ f2 ∧ f2 < n := this
    omega
  refine ⟨(comp_n (s := (f', st', n)) (t := (f2, s2, n2)) t0).symm, fun z => ?_, fun z => ?_⟩
  · have z : 0 < n2 := z
    show f + st * f2 = (plainM (f' + st' * f2) (st' * s2) n2).1
    unfold plainM
    rw [if_neg (by omega)]
    show f + st * f2 = f' + st' * f2
    rw [hf (by omega)]
    by_cases w : 1 < n
    · rw [hs w]
    · rw [z2 (by omega) z, Int.mul_zero, Int.mul_zero]
  · have z : 1 < n2 := z
    show st * s2 = (plainM (f' + st' * f2) (st' * s2) n2).2.1
    unfold plainM
    rw [if_neg (by omega)]
    show st * s2 = if 1 < n2 then st' * s2 else 1
    rw [if_pos z, hs (by omega)]
theorem Lk.plain {a b : Spn} (h : Lk a b) (hb : Nf b) : plainM a.1 a.2.1 a.2.2 = b := by
  have e := hb.plain
  have hn := hb.n0
  rw [← e, h.n]
  unfold plainM
  by_cases z : b.2.2 < 1
  · rw [if_pos z, if_pos z]
  · rw [if_neg z, if_neg z, h.f (by rw [h.n]; omega)]
    by_cases w : 1 < b.2.2
    · rw [if_pos w, if_pos w, h.s (by rw [h.n]; omega)]
    · rw [if_neg w, if_neg w]
end Gd

namespace Gd
open PySem PySem.Spec PyProof.Rows L2
/-! ### in, not in: flat things -/
def flatD : D → Bool
  | .non => true
  | .bl _ => true
  | .int _ => true
  | .str _ => true
  | _ => false
theorem Rep.flat {ok : Addr → Prop} {H : Hp} {d : D} {v : V} (r : Rep ok H d v) (h : flatD d = true) : flatV v = true := by
  cases r <;> first | rfl | exact absurd (show false = true from h) Bool.false_ne_true
theorem Rep.eqV {ok : Addr → Prop} {H : Hp} {d e : D} {v w : V} (r : Rep ok H d v) (s : Rep ok H e w) (h : flatD d = true) (k : flatD e = true) : L2.eqV v w = deq d e := by
  cases r <;> first | (exact absurd (show false = true from h) Bool.false_ne_true) | (cases s <;> first | rfl | exact absurd (show false = true from k) Bool.false_ne_true)
def inD (x : D) (ds : List D) : Bool := ds.any fun y => deq y x
theorem Reps.inV {ok : Addr → Prop} {H : Hp} {x : D} {v : V} (r : Rep ok H x v) (h : flatD x = true) : ∀ {ds : List D} {vs : List V}, Reps ok H ds vs → ds.all flatD = true → vs.all flatV = true ∧ L2.inV v vs = inD x ds
  | _, _, .nil, _ => ⟨rfl, rfl⟩
  | _, _, .cons q t, k => by
    rw [List.all_cons, Bool.and_eq_true] at k
    obtain ⟨a, b⟩ := Reps.inV r h t k.2
    refine ⟨by rw [List.all_cons, q.flat k.1, a]; rfl, ?_⟩
    unfold L2.inV inD at *
    rw [List.any_cons, List.any_cons, b, q.eqV r k.1 h]
section
variable {m : M} {Q : D → M → Prop} {K : PySem.W.Frag} {x : D} {ds : List D}
theorem g2_inL (h : flatD x = true) (k : ds.all flatD = true) (q : Q (.bl (inD x ds)) m) : g2 (rIn K false) x (.lst ds) m Q := fun H vx vy s r1 r2 Q' kk => by
  obtain ⟨a, us, rfl, oa, ea, ra⟩ := r2.lst_inv
  obtain ⟨f1, f2⟩ := ra.inV r1 h k
  refine ⟨a, us, rfl, .inl (.inl (.inl ea)), r1.flat h, f1, ?_⟩
  rw [f2]
  exact kk _ H _ m .refl (.bl _) s q
theorem g2_inT (h : flatD x = true) (k : ds.all flatD = true) (q : Q (.bl (inD x ds)) m) : g2 (rIn K false) x (.tup ds) m Q := fun H vx vy s r1 r2 Q' kk => by
  obtain ⟨a, us, rfl, ea, ra⟩ := r2.tup_inv
  obtain ⟨f1, f2⟩ := ra.inV r1 h k
  refine ⟨a, us, rfl, .inr (.inl (.inl ea)), r1.flat h, f1, ?_⟩
  rw [f2]
  exact kk _ H _ m .refl (.bl _) s q
theorem g2_ninL (h : flatD x = true) (k : ds.all flatD = true) (q : Q (.bl (!inD x ds)) m) : g2 (rIn K true) x (.lst ds) m Q := fun H vx vy s r1 r2 Q' kk => by
  obtain ⟨a, us, rfl, oa, ea, ra⟩ := r2.lst_inv
  obtain ⟨f1, f2⟩ := ra.inV r1 h k
  refine ⟨a, us, rfl, .inl (.inl (.inl ea)), r1.flat h, f1, ?_⟩
  rw [f2]
  exact kk _ H _ m .refl (.bl _) s q
theorem g2_ninT (h : flatD x = true) (k : ds.all flatD = true) (q : Q (.bl (!inD x ds)) m) : g2 (rIn K true) x (.tup ds) m Q := fun H vx vy s r1 r2 Q' kk => by
  obtain ⟨a, us, rfl, ea, ra⟩ := r2.tup_inv
  obtain ⟨f1, f2⟩ := ra.inV r1 h k
  refine ⟨a, us, rfl, .inr (.inl (.inl ea)), r1.flat h, f1, ?_⟩
  rw [f2]
  exact kk _ H _ m .refl (.bl _) s q
theorem flat_ints : ∀ ns : List Int, (ns.map D.int).all flatD = true
  | [] => rfl
  | n :: ns => by
    rw [List.map_cons, List.all_cons, flat_ints ns]
    rfl
theorem inD_ints (i : Int) : ∀ ns : List Int, inD (.int i) (ns.map D.int) = decide (i ∈ ns)
  | [] => rfl
  | n :: ns => by
    have ih := inD_ints i ns
    unfold inD at ih ⊢
    rw [List.map_cons, List.any_cons, ih, deq_int]
    by_cases h : n = i
    · subst h; simp
    · have h' : i ≠ n := fun z => h z.symm
      simp [h, h']
theorem g2_inI {i : Int} {ns : List Int} (q : Q (.bl (decide (i ∈ ns))) m) : g2 (rIn K false) (.int i) (intsD ns) m Q := g2_inL rfl (flat_ints ns) (by rw [inD_ints]; exact q)
theorem g2_ninI {i : Int} {ns : List Int} (q : Q (.bl (!decide (i ∈ ns))) m) : g2 (rIn K true) (.int i) (intsD ns) m Q := g2_ninL rfl (flat_ints ns) (by rw [inD_ints]; exact q)
theorem flat_oi (o : Option Int) : flatD (oi o) = true := by cases o <;> rfl
theorem gc_lenI {ns : List Int} (q : Q (.int ns.length) m) : gc (fun xs H Q => ∃ x n, xs = [x] ∧ LenV K x H n ∧ Q (.int n) H) [intsD ns] m Q := gc_lenL (by rw [List.length_map]; exact q)
theorem gc_lenC {cs : List Cut} (q : Q (.int cs.length) m) : gc (fun xs H Q => ∃ x n, xs = [x] ∧ LenV K x H n ∧ Q (.int n) H) [chainD cs] m Q := gc_lenL (by rw [List.length_map]; exact q)
theorem gsl_I {ns : List Int} {lo hi : Option Int} (q : Q (intsD (cutL ns lo hi)) m) : gsl (rSlL K) (intsD ns) lo hi m Q := gsl_L (by rw [cutL_map]; exact q)
theorem gsl_C {cs : List Cut} {lo hi : Option Int} (q : Q (chainD (cutL cs lo hi)) m) : gsl (rSlL K) (chainD cs) lo hi m Q := gsl_L (by rw [cutL_map]; exact q)
theorem g2_addII {xs ys : List Int} (h : xs.length + ys.length ≤ 100000) (q : Q (intsD (xs ++ ys)) m) : g2 (rAddP K) (intsD xs) (intsD ys) m Q := g2_addL (by rw [List.length_map, List.length_map]; exact Nat.le_trans h (by decide)) (by rw [← List.map_append]; exact q)
theorem g2_repL {k : Int} (h1 : -1000000 ≤ k ∧ k ≤ 1000000) (h2 : ds.length * k.toNat ≤ 100000) (q : Q (.lst (List.replicate k.toNat ds).flatten) m) : g2 rMulP (.lst ds) (.int k) m Q := g2_r fun H vx vy s r1 r2 Q' kk => by
  obtain ⟨a, us, rfl, oa, ea, ra⟩ := r1.lst_inv
  have hr : ∀ n : Nat, Reps (off m) H (List.replicate n ds).flatten (List.replicate n us).flatten := fun n => by
    induction n with
    | zero => exact .nil
    | succ n ih =>
      rw [List.replicate_succ, List.replicate_succ, List.flatten_cons, List.flatten_cons]
      exact ra.append ih
  refine ⟨a, k, us, rfl, r2.int_inv, ea, by omega, by omega, by rw [← ra.length]; exact Nat.le_trans h2 (by decide), fun p np => ?_⟩
  exact kk _ _ (.lst _) m (.fresh np) (.lst (s.off_new np) upd_same ((hr k.toNat).step (.fresh np))) (s.fresh np) q
end
section
variable {X : Cx} (K : PySem.W.Frag)
theorem kIn (h : X.K = K := by rfl) : OpR X (compareOp .In) (rIn K false) := by subst h; exact op_in_seq
theorem kNotIn (h : X.K = K := by rfl) : OpR X (compareOp .NotIn) (rIn K true) := by subst h; exact op_notIn_seq
theorem kIndex (h : X.K = K := by rfl) : MtR X "list.index" (rIndex K) := by subst h; exact mt_index
/-- list(x), the new list a cell -/
def rListM (K : PySem.W.Frag) : List V → Hp → VK → Prop := rListOf K
theorem kListM (h : X.K = K := by rfl) : CallR X (.type "list") (rListM K) := by subst h; exact call_list_of
end
section
variable {xc : Xc} {d : Dl} {m : M} {Q : D → M → Prop} {K : PySem.W.Frag} {ds es : List D} {aa : TA}
theorem gc_listLM (q : ∀ p, p ∉ dom m → Q (.ref p) ((p, .lst ds) :: m)) : gc (rListM K) [.lst ds] m Q := fun H vs s r Q' k => by
  cases r with | cons r1 r2 =>
  cases r2
  obtain ⟨a, us, rfl, oa, ea, ra⟩ := r1.lst_inv
  exact ⟨a, us, rfl, .inl (.inl (.inl ea)), fun p np => k _ _ (.ref p) _ (.cell np) (.ref p) (s.cell np ra) (q p (s.off_new np))⟩
theorem gc_listTM (q : ∀ p, p ∉ dom m → Q (.ref p) ((p, .lst ds) :: m)) : gc (rListM K) [.tup ds] m Q := fun H vs s r Q' k => by
  cases r with | cons r1 r2 =>
  cases r2
  obtain ⟨a, us, rfl, ea, ra⟩ := r1.tup_inv
  exact ⟨a, us, rfl, .inr (.inl (.inl ea)), fun p np => k _ _ (.ref p) _ (.cell np) (.ref p) (s.cell np ra) (q p (s.off_new np))⟩
def enumD (ds : List D) : List D := ds.zipIdx.map fun p => .tup [.int ((p.2 : Nat) : Int), p.1]
def zipD (ds es : List D) : List D := List.zipWith (fun a b => .tup [a, b]) ds es
theorem gi_enum {R : List D → M → Prop} (h : ga xc aa d m fun xs m1 => ∃ ds, xs = [.lst ds] ∧ R (enumD ds) m1) : gi xc (iEnum K aa) d m R := fun sg H s e R' k =>
  h sg H s e _ fun vs H1 xs m1 s1 r1 t1 ⟨ds, hx, q⟩ => by
    subst hx
    cases r1 with | cons r1 r2 =>
    cases r2
    obtain ⟨a, us, rfl, oa, ea, ra⟩ := r1.lst_inv
    refine ⟨a, us, rfl, .inl (.inl ea), k _ H1 _ m1 s1 t1 (fun i m' H' s2 t2 => ?_) q⟩
    have ea' := (s2.h2 a _ oa ea).2
    have ra' := ra.step s2
    have el : (enumD ds).length = ds.length := by unfold enumD; rw [List.length_map, List.length_zipIdx]
    refine ⟨fun hi => ?_, fun hi => ⟨us, .inl (.inl ea'), by rw [← ra'.length]; omega⟩⟩
    obtain ⟨x, hx⟩ : ∃ x, ds[i]? = some x := ⟨ds[i]'(by omega), List.getElem?_eq_getElem (by omega)⟩
    obtain ⟨v, hv, rv⟩ := ra'.get hx
    refine ⟨⟨us, v, .inl (.inl ea'), hv⟩, fun u H2 ⟨T, w, e1, e2, e3, hy⟩ => ?_⟩
    have := hy us (.inl (.inl ea'))
    rw [hv] at this
    cases this
    subst e1 e3
    refine ⟨.tup [.int (i : Nat), x], ?_, .fresh e2, t2.fresh e2, .tup upd_same (.cons (.int _) (.cons (rv.step (.fresh e2)) .nil))⟩
    unfold enumD
    rw [List.getElem?_map, List.getElem?_zipIdx, hx]
    simp
theorem gi_zip {R : List D → M → Prop} (h : ga xc aa d m fun xs m1 => ∃ ds es, xs = [.lst ds, .lst es] ∧ R (zipD ds es) m1) : gi xc (iZip K aa) d m R := fun sg H s e R' k =>
  h sg H s e _ fun vs H1 xs m1 s1 r1 t1 ⟨ds, es, hx, q⟩ => by
    subst hx
    cases r1 with | cons r1 r2 =>
    cases r2 with | cons r2 r3 =>
    cases r3
    obtain ⟨a, us, rfl, oa, ea, ra⟩ := r1.lst_inv
    obtain ⟨b, ws, rfl, ob, eb, rb⟩ := r2.lst_inv
    refine ⟨a, b, us, ws, rfl, .inl (.inl ea), .inl (.inl eb), k _ H1 _ m1 s1 t1 (fun i m' H' s2 t2 => ?_) q⟩
    have ea' := (s2.h2 a _ oa ea).2
    have ra' := ra.step s2
    have eb' := (s2.h2 b _ ob eb).2
    have rb' := rb.step s2
    have el : (zipD ds es).length = min ds.length es.length := by unfold zipD; rw [List.length_zipWith]
    refine ⟨fun hi => ?_, fun hi => ⟨us, ws, .inl (.inl ea'), .inl (.inl eb'), by rw [← ra'.length, ← rb'.length]; omega⟩⟩
    obtain ⟨x, hx⟩ : ∃ x, ds[i]? = some x := ⟨ds[i]'(by omega), List.getElem?_eq_getElem (by omega)⟩
    obtain ⟨y, hy⟩ : ∃ x, es[i]? = some x := ⟨es[i]'(by omega), List.getElem?_eq_getElem (by omega)⟩
    obtain ⟨v, hv, rv⟩ := ra'.get hx
    obtain ⟨w, hw, rw'⟩ := rb'.get hy
    refine ⟨⟨us, ws, v, w, .inl (.inl ea'), .inl (.inl eb'), hv, hw⟩, fun u H2 ⟨T, x1, y1, e1, e2, e3, h1, h2⟩ => ?_⟩
    have h1 := h1 us (.inl (.inl ea'))
    have h2 := h2 ws (.inl (.inl eb'))
    rw [hv] at h1
    rw [hw] at h2
    cases h1
    cases h2
    subst e1 e3
    refine ⟨.tup [x, y], ?_, .fresh e2, t2.fresh e2, .tup upd_same (.cons (rv.step (.fresh e2)) (.cons (rw'.step (.fresh e2)) .nil))⟩
    unfold zipD
    rw [List.getElem?_zipWith, hx, hy]
theorem gw_tup2 {i j : Nat} {vs : List Nat} (hi : i ∈ vs) (hj : j ∈ vs) : GW (gTup K 2 (gCons (gName i) (gCons (gName j) gNil))) vs := gw_tup fun xs sg H Q ⟨v, r, e, v2, r2, e2, e3, q⟩ =>
  ⟨v, r, e, v2, r2, e2, e3, by
    have h1 := (gw_name hi v sg H (fun _ _ => True) trivial).1
    have h2 := (gw_name hj v2 (sg.set i (some v)) H (fun _ _ => True) trivial).1
    exact h2.trans h1, q⟩
theorem gw_tup3 {i j l : Nat} {vs : List Nat} (hi : i ∈ vs) (hj : j ∈ vs) (hl : l ∈ vs) : GW (gTup K 3 (gCons (gName i) (gCons (gName j) (gCons (gName l) gNil)))) vs := gw_tup fun xs sg H Q ⟨v, r, e, v2, r2, e2, v3, r3, e3, e4, q⟩ =>
  ⟨v, r, e, v2, r2, e2, v3, r3, e3, e4, by
    have h1 := (gw_name hi v sg H (fun _ _ => True) trivial).1
    have h2 := (gw_name hj v2 (sg.set i (some v)) H (fun _ _ => True) trivial).1
    have h3 := (gw_name hl v3 ((sg.set i (some v)).set j (some v2)) H (fun _ _ => True) trivial).1
    exact h3.trans (h2.trans h1), q⟩
theorem ex_L1 {x : List D} {Q : List D → Prop} (q : Q x) : ∃ ds, [D.lst x] = [.lst ds] ∧ Q ds := ⟨x, rfl, q⟩
theorem ex_L2 {x y : List D} {Q : List D → List D → Prop} (q : Q x y) : ∃ ds es, [D.lst x, D.lst y] = [.lst ds, .lst es] ∧ Q ds es := ⟨x, y, rfl, q⟩
/-- found[place] = thing, the first cell's list -/
theorem gg_subH {ta tb : TE} {x : D} {Q : Dl → M → Prop} (h : ge xc ta d m fun o m1 => ge xc tb d m1 fun i m2 => ∃ p k ds n m3, o = .ref p ∧ i = .int k ∧ m2 = (p, MO.lst ds) :: m3 ∧ ixN ds.length k = some n ∧ Q d ((p, .lst (ds.set n x)) :: m3)) : gg xc (gSub ta tb rSetL) x d m Q :=
  gg_sub (h.mono fun o m1 h1 => h1.mono fun i m2 ⟨p, k, ds, n, m3, e1, e2, e3, e4, q⟩ => ⟨p, k, 0, ds, n, e1, e2, by rw [e3]; rfl, e4, by rw [e3]; exact q⟩)
end
/-! ### things laid into places -/
def settleM : List Int → List Int → List Int → List Int
  | row, p :: ps, t :: ts => settleM (row.set p.toNat t) ps ts
  | row, [], _ => row
  | row, _, [] => row
theorem settle_len : ∀ (ps ts row : List Int), (settleM row ps ts).length = row.length
  | [], _, row => by rw [settleM]
  | _ :: _, [], row => by rw [settleM]; simp
  | p :: ps, t :: ts, row => by rw [settleM, settle_len ps ts, List.length_set]
theorem settle_snoc (p t : Int) : ∀ (ps ts row : List Int), ps.length = ts.length → settleM row (ps ++ [p]) (ts ++ [t]) = (settleM row ps ts).set p.toNat t
  | [], [], row, _ => by simp [settleM]
  | q :: ps, u :: ts, row, h => by
    rw [List.cons_append, List.cons_append, settleM, settleM]
    exact settle_snoc p t ps ts _ (by simpa using h)
  | [], _ :: _, _, h => by simp at h
  | _ :: _, [], _, h => by simp at h
theorem settle_out {p : Nat} : ∀ (ps ts row : List Int), (∀ q ∈ ps, q.toNat ≠ p) → (settleM row ps ts)[p]? = row[p]?
  | [], _, row, _ => by rw [settleM]
  | _ :: _, [], row, _ => by rw [settleM]; simp
  | q :: ps, t :: ts, row, h => by
    rw [settleM, settle_out ps ts _ (fun r hr => h r (List.mem_cons_of_mem _ hr)), List.getElem?_set_ne (h q List.mem_cons_self)]
theorem settle_in {p t : Int} : ∀ (ps ts row : List Int) (i : Nat), (ps.map Int.toNat).Nodup → (∀ q ∈ ps, q.toNat < row.length) → ps[i]? = some p → ts[i]? = some t → (settleM row ps ts)[p.toNat]? = some t
  | [], _, row, i, _, _, h, _ => by simp at h
  | _ :: _, [], row, i, _, _, _, h => by simp at h
  | q :: ps, u :: ts, row, 0, nd, hb, h1, h2 => by
    simp only [List.getElem?_cons_zero, Option.some.injEq] at h1 h2
    subst h1 h2
    rw [List.map_cons, List.nodup_cons] at nd
    rw [settleM, settle_out ps ts _ (fun r hr z => nd.1 (List.mem_map.mpr ⟨r, hr, z⟩)), List.getElem?_set_self (hb q List.mem_cons_self)]
  | q :: ps, u :: ts, row, i + 1, nd, hb, h1, h2 => by
    rw [List.getElem?_cons_succ] at h1 h2
    rw [List.map_cons, List.nodup_cons] at nd
    rw [settleM]
    exact settle_in ps ts _ i nd.2 (fun r hr => by rw [List.length_set]; exact hb r (List.mem_cons_of_mem _ hr)) h1 h2
/-- what is laid, told place by place -/
theorem settle_ext {ps ts row row' : List Int} (hl : row'.length = row.length) (nd : (ps.map Int.toNat).Nodup) (hb : ∀ q ∈ ps, q.toNat < row.length) (hlen : ps.length = ts.length)
    (hin : ∀ (i : Nat) p t, ps[i]? = some p → ts[i]? = some t → row'[p.toNat]? = some t) (hout : ∀ p : Nat, (∀ q ∈ ps, q.toNat ≠ p) → row'[p]? = row[p]?) : settleM row ps ts = row' := by
  apply List.ext_getElem?
  intro k
  by_cases h : ∃ q ∈ ps, q.toNat = k
  · obtain ⟨q, hq, e⟩ := h
    obtain ⟨i, hi, e2⟩ := List.mem_iff_getElem.mp hq
    have h1 : ps[i]? = some q := by rw [List.getElem?_eq_getElem hi, e2]
    have h2 : ts[i]? = some (ts[i]'(by omega)) := List.getElem?_eq_getElem (by omega)
    rw [← e, settle_in ps ts row i nd hb h1 h2, hin i q _ h1 h2]
  · have h' : ∀ q ∈ ps, q.toNat ≠ k := fun q hq z => h ⟨q, hq, z⟩
    rw [settle_out ps ts row h', hout k h']
/-- a span has no place twice -/
theorem SpanIn.nodup {s : Spn} {l : Int} (h : SpanIn s l) : ((spanL s).map Int.toNat).Nodup := by
  obtain ⟨f, st, n⟩ := s
  unfold spanL
  rw [List.map_map, List.Nodup, List.pairwise_map]
  refine List.Pairwise.imp_of_mem (fun {a b} ha hb hab => ?_) List.pairwise_lt_range
  have m1 := h.mem a (by have := List.mem_range.mp ha; show (a : Int) < n; have : a < n.toNat := this; omega)
  have m2 := h.mem b (by have := List.mem_range.mp hb; show (b : Int) < n; have : b < n.toNat := this; omega)
  have m1 : 0 ≤ f + st * (a : Int) ∧ f + st * (a : Int) < l := m1
  have m2 : 0 ≤ f + st * (b : Int) ∧ f + st * (b : Int) < l := m2
  intro z
  have z : (f + st * (a : Int)).toNat = (f + st * (b : Int)).toNat := z
  have e : st * (a : Int) = st * (b : Int) := by omega
  have := Int.eq_of_mul_eq_mul_left h.nz e
  omega
def restM (row ps : List Int) : List Int := row.zipIdx.filterMap fun p => if ((p.2 : Nat) : Int) ∈ ps then none else some p.1
theorem zipIdx_range (row : List Int) : row.zipIdx = (List.range row.length).map fun i => (row.getD i 0, i) := by
  apply List.ext_getElem?
  intro i
  rw [List.getElem?_zipIdx, List.getElem?_map]
  by_cases h : i < row.length
  · rw [List.getElem?_range h, List.getElem?_eq_getElem h]
    simp [List.getD_eq_getElem?_getD, h]
  · rw [List.getElem?_eq_none (by omega), List.getElem?_eq_none (by rw [List.length_range]; omega)]
    rfl
theorem rest_range (row ps : List Int) : (List.range row.length).filterMap (fun i : Nat => if (i : Int) ∈ ps then none else some (row.getD i 0)) = restM row ps := by
  unfold restM
  rw [zipIdx_range, List.filterMap_map]
  rfl
theorem fm_all {α β : Type} {f : α → Option β} {g : α → β} : ∀ {l : List α}, (∀ x ∈ l, f x = some (g x)) → l.filterMap f = l.map g
  | [], _ => rfl
  | x :: l, h => by
    rw [List.filterMap_cons_some (h x List.mem_cons_self), List.map_cons, fm_all fun y hy => h y (List.mem_cons_of_mem _ hy)]
theorem fm_none {α β : Type} {f : α → Option β} : ∀ {l : List α}, (∀ x ∈ l, f x = none) → l.filterMap f = []
  | [], _ => rfl
  | x :: l, h => by
    rw [List.filterMap_cons_none (h x List.mem_cons_self), fm_none fun y hy => h y (List.mem_cons_of_mem _ hy)]
theorem fm_congr {α β : Type} {f g : α → Option β} : ∀ {l : List α}, (∀ x ∈ l, f x = g x) → l.filterMap f = l.filterMap g
  | [], _ => rfl
  | x :: l, h => by
    rw [List.filterMap_cons, List.filterMap_cons, h x List.mem_cons_self, fm_congr fun y hy => h y (List.mem_cons_of_mem _ hy)]
theorem rest_plain {row ps : List Int} {b e : Nat} (hb : b ≤ e) (he : e ≤ row.length) (h : ∀ x : Nat, (x : Int) ∈ ps ↔ b ≤ x ∧ x < e) : restM row ps = row.take b ++ row.drop e := by
  have e1 : row = row.take b ++ ((row.drop b).take (e - b) ++ row.drop e) := by
    have : row.drop e = (row.drop b).drop (e - b) := by rw [List.drop_drop]; congr 1; omega
    rw [this, List.take_append_drop, List.take_append_drop]
  have hl1 : (row.take b).length = b := by rw [List.length_take]; omega
  have hl2 : ((row.drop b).take (e - b)).length = e - b := by rw [List.length_take, List.length_drop]; omega
  unfold restM
  conv => lhs; rw [e1]
  rw [List.zipIdx_append, List.zipIdx_append, List.filterMap_append, List.filterMap_append, hl1, hl2]
  have f1 : (row.take b).zipIdx.filterMap (fun p => if ((p.2 : Nat) : Int) ∈ ps then none else some p.1) = row.take b := by
    rw [fm_all (g := Prod.fst)]
    · simp
    · intro x hx
      have h2 := List.snd_lt_of_mem_zipIdx hx
      rw [if_neg]
      intro z
      have := (h x.2).mp z
      omega
  have f2 : (((row.drop b).take (e - b)).zipIdx (0 + b)).filterMap (fun p => if ((p.2 : Nat) : Int) ∈ ps then none else some p.1) = [] := by
    refine fm_none ?_
    intro x hx
    have h2 := List.snd_lt_of_mem_zipIdx hx
    have h3 := List.le_snd_of_mem_zipIdx hx
    rw [if_pos]
    exact (h x.2).mpr (by omega)
  have f3 : ((row.drop e).zipIdx (0 + b + (e - b))).filterMap (fun p => if ((p.2 : Nat) : Int) ∈ ps then none else some p.1) = row.drop e := by
    rw [fm_all (g := Prod.fst)]
    · simp
    · intro x hx
      have h3 := List.le_snd_of_mem_zipIdx hx
      rw [if_neg]
      intro z
      have := (h x.2).mp z
      omega
  rw [f1, f2, f3]
  rfl
theorem lay_back {row : List Int} {b n : Nat} (h : b + n ≤ row.length) : row.take b ++ (List.range n).map (fun k => row.getD (b + k) 0) ++ row.drop (b + n) = row := by
  have e0 : (List.range n).map (fun k => row.getD (b + k) 0) = (row.drop b).take n := by
    apply List.ext_getElem?
    intro i
    rw [List.getElem?_map]
    by_cases hi : i < n
    · rw [List.getElem?_range hi, List.getElem?_take_of_lt hi, List.getElem?_drop, List.getElem?_eq_getElem (by omega)]
      simp [List.getD_eq_getElem?_getD, show b + i < row.length by omega]
    · rw [List.getElem?_eq_none (by rw [List.length_range]; omega), List.getElem?_eq_none (by rw [List.length_take]; omega)]
      rfl
  rw [e0, List.append_assoc, ← List.drop_drop, List.take_append_drop, List.take_append_drop]
theorem filter_low {row things : List Int} {b e : Nat} (h1 : ∀ x ∈ row, x < 2000000) (h2 : ∀ x ∈ things, 2000000 ≤ x) : (row.take b ++ things ++ row.drop e).filter (fun x => decide (x < 2000000)) = row.take b ++ row.drop e := by
  rw [List.filter_append, List.filter_append]
  have f1 : ∀ l : List Int, (∀ x ∈ l, x < 2000000) → l.filter (fun x => decide (x < 2000000)) = l := fun l hl => List.filter_eq_self.mpr fun x hx => decide_eq_true (hl x hx)
  have f2 : things.filter (fun x => decide (x < 2000000)) = [] := List.filter_eq_nil_iff.mpr fun x hx => by have := h2 x hx; simp; omega
  rw [f1 _ (fun x hx => h1 x (List.mem_of_mem_take hx)), f2, f1 _ (fun x hx => h1 x (List.mem_of_mem_drop hx)), List.append_nil]
/-- a step of 1: the places from begin up to end -/
theorem spanL_plain {c : Cut} {l b e : Int} (he : endsM c l = (b, e, 1)) : spanL (spanM c l) = (List.range (e - b).toNat).map (fun k : Nat => b + (k : Int)) := by
  obtain ⟨n, n1, n2, n3⟩ := spanL_ends he (by decide)
  rw [n1]
  have hn : n = (e - b).toNat := by
    have h1 := n3 n (Nat.le_refl _)
    by_cases z : n = 0
    · subst z
      simp only [Int.ofNat_zero, Int.mul_zero, Int.add_zero] at h1
      omega
    · have h2 := (n3 (n - 1) (by omega)).mpr (by omega)
      have e1 : (1 : Int) * ((n - 1 : Nat) : Int) = ((n - 1 : Nat) : Int) := Int.one_mul _
      have e2 : (1 : Int) * ((n : Nat) : Int) = ((n : Nat) : Int) := Int.one_mul _
      rw [e1] at h2
      rw [e2] at h1
      omega
  rw [hn]
  apply List.map_congr_left
  intro i _
  rw [Int.one_mul]
theorem mem_plain {c : Cut} {l b e : Int} (he : endsM c l = (b, e, 1)) (x : Int) : x ∈ spanL (spanM c l) ↔ b ≤ x ∧ x < e := by
  rw [spanL_plain he]
  constructor
  · intro h
    obtain ⟨k, hk, z⟩ := List.mem_map.mp h
    have := List.mem_range.mp hk
    omega
  · intro h
    exact List.mem_map.mpr ⟨(x - b).toNat, List.mem_range.mpr (by omega), by omega⟩
theorem free_is (c : Cut) (l : Int) : inD (oi c.2.2) [.non, .int 1] = decide ((endsM c l).2.2 = 1) := by
  obtain ⟨b, e, st⟩ := c
  cases st with
  | none => rfl
  | some s =>
    have h : (endsM (b, e, some s) l).2.2 = s := by
      show (if 0 < s then ((edgeM b l 0 0 l, edgeM e l l 0 l, s) : Spn) else (edgeM b l (l - 1) (-1) (l - 1), edgeM e l (-1) (-1) (l - 1), s)).2.2 = s
      split <;> rfl
    rw [h]
    show ((1 == s) || false) = _
    by_cases z : s = 1
    · subst z; rfl
    · rw [decide_eq_false z, Bool.or_false, beq_eq_false_iff_ne]
      exact fun w => z w.symm
/-- the row behind giving things into a cut -/
def laidM (row : List Int) (c : Cut) (things : List Int) : List Int :=
  if (endsM c row.length).2.2 = 1 then row.take (endsM c row.length).1.toNat ++ things ++ row.drop (mx (endsM c row.length).1 (endsM c row.length).2.1).toNat
  else settleM row (spanL (spanM c row.length)) things
theorem deq_refl {x : D} (h : Sh 64 x) : deq x x = true := SeqAt.eqv_refl _ h.lay
/-! ### comprehensions that draw -/
section
variable {xc : Xc} {d : Dl} {m : M} {g : TG} {te : TE} {p : Addr} {R : List D → M → Prop}
theorem glc_town (w : Nat) (P : D → Prop) {ds : List D} (hl : ds.length < 100000) (j : Nat) {t : Addr} {ns tw0 : List Int} {c0 : Nat} (hm : m[j]? = some (t, MO.lst (tw0.map D.int))) (ht : TownOk ns tw0 c0)
    (h : ∀ (i : Nat) x acc tw c, ds[i]? = some x → TownOk ns tw c → c ≤ c0 + w * i → gg xc g x d ((p, .lst acc) :: m.set j (t, .lst (tw.map D.int))) fun d2 m2 => ge xc te d2 m2 fun y m4 => ∃ tw' c', m4 = (p, .lst acc) :: m.set j (t, .lst (tw'.map D.int)) ∧ TownOk ns tw' c' ∧ c' ≤ c + w ∧ P y)
    (hR : ∀ ys tw c, ys.length = ds.length → (∀ y ∈ ys, P y) → TownOk ns tw c → c ≤ c0 + w * ds.length → R ys (m.set j (t, .lst (tw.map D.int)))) : glc xc g tYes te d p R ds [] m := by
  have hjl : j < m.length := (List.getElem?_eq_some_iff.mp hm).1
  have em : m.set j (t, MO.lst (tw0.map D.int)) = m := by
    apply List.ext_getElem?
    intro i
    by_cases z : j = i
    · subst z
      rw [List.getElem?_set_self hjl, hm]
    · rw [List.getElem?_set_ne z]
  refine glc_inv (fun i acc m' => ∃ tw c, m' = m.set j (t, MO.lst (tw.map D.int)) ∧ acc.length = i ∧ i ≤ ds.length ∧ (∀ y ∈ acc, P y) ∧ TownOk ns tw c ∧ c ≤ c0 + w * i) ds (fun i x acc m' hx hP => ?_) (fun acc m' hP => ?_) ⟨tw0, c0, em.symm, rfl, Nat.zero_le _, (fun _ h => nomatch h), ht, by omega⟩
  · obtain ⟨tw, c, rfl, ha, hi, hall, ht', hc⟩ := hP
    refine (h i x acc tw c hx ht' hc).mono fun d2 m2 q => gt_yes (ite_t rfl (q.mono fun y m4 ⟨tw', c', e, ht2, hc2, hp⟩ => ?_))
    have hi2 : i < ds.length := (List.getElem?_eq_some_iff.mp hx).1
    refine ⟨_, e, by omega, tw', c', rfl, by rw [List.length_append]; simp only [List.length_cons, List.length_nil]; omega, by omega, ?_, ht2, by rw [Nat.mul_add, Nat.mul_one]; omega⟩
    intro z hz
    rcases List.mem_append.mp hz with hz | hz
    · exact hall z hz
    · rw [List.mem_singleton.mp hz]
      exact hp
  · obtain ⟨tw, c, rfl, ha, hi, hall, ht', hc⟩ := hP
    exact hR acc tw c ha hall ht' hc
theorem ints_of {P : Int → Prop} : ∀ {ys : List D}, (∀ y ∈ ys, ∃ z : Int, y = .int z ∧ P z) → ∃ zs : List Int, ys = zs.map D.int ∧ ∀ z ∈ zs, P z
  | [], _ => ⟨[], rfl, fun _ h => nomatch h⟩
  | y :: ys, h => by
    obtain ⟨z, e, hz⟩ := h y List.mem_cons_self
    obtain ⟨zs, e2, hzs⟩ := ints_of (ys := ys) fun y hy => h y (List.mem_cons_of_mem _ hy)
    refine ⟨z :: zs, by rw [e, e2]; rfl, fun x hx => ?_⟩
    rcases List.mem_cons.mp hx with e | hx
    · rw [e]; exact hz
    · exact hzs x hx
theorem glc_townI (w : Nat) (P : Int → Prop) {ds : List D} (hl : ds.length < 100000) (j : Nat) {t : Addr} {ns tw0 : List Int} {c0 : Nat} (hm : m[j]? = some (t, MO.lst (tw0.map D.int))) (ht : TownOk ns tw0 c0)
    (h : ∀ (i : Nat) x acc tw c, ds[i]? = some x → TownOk ns tw c → c ≤ c0 + w * i → gg xc g x d ((p, .lst acc) :: m.set j (t, .lst (tw.map D.int))) fun d2 m2 => ge xc te d2 m2 fun y m4 => ∃ tw' c', m4 = (p, .lst acc) :: m.set j (t, .lst (tw'.map D.int)) ∧ TownOk ns tw' c' ∧ c' ≤ c + w ∧ ∃ z : Int, y = .int z ∧ P z)
    (hR : ∀ (zs tw : List Int) c, zs.length = ds.length → (∀ y ∈ zs, P y) → TownOk ns tw c → c ≤ c0 + w * ds.length → R (zs.map D.int) (m.set j (t, .lst (tw.map D.int)))) : glc xc g tYes te d p R ds [] m :=
  glc_town w (fun y => ∃ z : Int, y = .int z ∧ P z) hl j hm ht h fun ys tw c h1 h2 h3 h4 => by
    obtain ⟨zs, e, hz⟩ := ints_of h2
    subst e
    exact hR zs tw c (by rw [← h1, List.length_map]) hz h3 h4
end
/-- [row[place] for place in range(len(row)) if place not in ps] -/
theorem glc_rest {xc : Xc} {d : Dl} {m : M} {p : Addr} {R : List D → M → Prop} {K : PySem.W.Frag} {j k l : Nat} (row ps : List Int) (hk : ∀ x : D, (d.set k (some x))[j]? = some (some (intsD row))) (hl : ∀ x : D, (d.set k (some x))[l]? = some (some (intsD ps))) (hkk : ∀ x : D, (d.set k (some x))[k]? = some (some x)) (hlen : row.length < 100000)
    (hR : R ((restM row ps).map D.int) m) : glc xc (gName k) (tTest (tOp (rIn K true) (tVar k) (tVar l))) (tOp (rIx K) (tVar j) (tVar k)) d p R (rgD 0 (row.length : Int).toNat) [] m := by
  refine glc_fm (fun x => match x with | .int i => if i ∈ ps then none else some (.int (row.getD i.toNat 0)) | _ => none) _ (by rw [rgD_len]; exact hlen) (fun x hx acc => ?_) ?_
  · unfold rgD at hx
    obtain ⟨i, hi, e⟩ := List.mem_map.mp hx
    have hi : i < row.length := List.mem_range.mp hi
    subst e
    rw [Int.zero_add]
    refine gg_name (gt_test (ge_op (ge_var (hkk _) (ge_var (hl _) (g2_ninI ⟨_, rfl, ite_not (ite_dec (fun z => ?_) (fun z => ?_))⟩)))))
    · refine ⟨?_, rfl⟩
      show (if ((i : Nat) : Int) ∈ ps then none else _) = none
      rw [if_pos z]
    · refine ge_op (ge_var (hk _) (ge_var (hkk _) (g2_ixPL (item_at (by omega) (by omega)) ⟨?_, rfl⟩)))
      show (if ((i : Nat) : Int) ∈ ps then none else _) = _
      rw [if_neg z]
  · have e : (rgD 0 (row.length : Int).toNat).filterMap (fun x => match x with | .int i => if i ∈ ps then none else some (.int (row.getD i.toNat 0)) | _ => none) = (restM row ps).map D.int := by
      rw [← rest_range]
      unfold rgD
      rw [List.filterMap_map, List.map_filterMap]
      apply fm_congr
      intro i _
      show (if (0 : Int) + ((i : Nat) : Int) ∈ ps then none else some (D.int (row.getD ((0 : Int) + ((i : Nat) : Int)).toNat 0))) = Option.map D.int (if ((i : Nat) : Int) ∈ ps then none else some (row.getD i 0))
      rw [Int.zero_add]
      by_cases z : ((i : Nat) : Int) ∈ ps
      · rw [if_pos z, if_pos z]; rfl
      · rw [if_neg z, if_neg z]; rfl
    rw [e]
    exact hR
/-- [x for x in ns if P x] -/
theorem glc_filterI {xc : Xc} {d : Dl} {m : M} {p : Addr} {R : List D → M → Prop} {g : TG} {tt : TT} {te : TE} (P : Int → Bool) (ns : List Int) (hl : ns.length < 100000)
    (h : ∀ i ∈ ns, ∀ acc, gg xc g (.int i) d ((p, .lst acc) :: m) fun d2 m2 => gt xc tt d2 m2 fun b m3 => b = P i ∧ m3 = (p, .lst acc) :: m ∧ ge xc te d2 m3 fun z m4 => z = .int i ∧ m4 = m3)
    (hR : R ((ns.filter P).map D.int) m) : glc xc g tt te d p R (ns.map D.int) [] m := by
  refine glc_fm (fun x => match x with | .int i => if P i = true then some (.int i) else none | _ => none) _ (by rw [List.length_map]; exact hl) (fun x hx acc => ?_) ?_
  · obtain ⟨i, hi, e⟩ := List.mem_map.mp hx
    subst e
    refine (h i hi acc).mono fun d2 m2 q => q.mono fun b m3 ⟨e1, e2, e3⟩ => ?_
    cases hb : P i with
    | true =>
      rw [hb] at e1
      subst e1
      refine ite_t rfl (e3.mono fun z m4 ⟨e4, e5⟩ => ⟨?_, by rw [e5, e2]⟩)
      show (if P i = true then some (D.int i) else none) = some z
      rw [if_pos hb, e4]
    | false =>
      rw [hb] at e1
      subst e1
      refine ite_f rfl ⟨?_, e2⟩
      show (if P i = true then some (D.int i) else none) = none
      rw [if_neg (by rw [hb]; decide)]
  · have e : ∀ ns : List Int, (ns.map D.int).filterMap (fun x => match x with | .int i => if P i = true then some (.int i) else none | _ => none) = (ns.filter P).map D.int := fun ns => by
      induction ns with
      | nil => rfl
      | cons n ns ih =>
        rw [List.map_cons, List.filterMap_cons, ih]
        cases hb : P n with
        | true => rw [List.filter_cons_of_pos hb]; simp [hb]
        | false => rw [List.filter_cons_of_neg (by rw [hb]; decide)]; simp [hb]
    rw [e]
    exact hR
/-- the middle of three lists -/
theorem cutL_mid {xs ys zs : List Int} {i j : Int} (hi : (xs.length : Int) = i) (hj : ((xs.length + ys.length : Nat) : Int) = j) : cutL (xs ++ ys ++ zs) (some i) (some j) = ys := by
  subst hi hj
  unfold cutL
  have e1 : HT.sIx (xs ++ ys ++ zs).length 0 (some (xs.length : Int)) = xs.length := by
    rw [show HT.sIx (xs ++ ys ++ zs).length 0 (some ((xs.length : Nat) : Int)) = min xs.length (xs ++ ys ++ zs).length from HT.sIx_nat _ 0 _, List.length_append, List.length_append]
    omega
  have e2 : HT.sIx (xs ++ ys ++ zs).length (xs ++ ys ++ zs).length (some ((xs.length + ys.length : Nat) : Int)) = xs.length + ys.length := by
    rw [show HT.sIx (xs ++ ys ++ zs).length (xs ++ ys ++ zs).length (some ((xs.length + ys.length : Nat) : Int)) = min (xs.length + ys.length) (xs ++ ys ++ zs).length from HT.sIx_nat _ _ _, List.length_append, List.length_append]
    omega
  rw [e1, e2, List.append_assoc, List.drop_left, show xs.length + ys.length - xs.length = ys.length by omega, List.take_left]
theorem settle_take {ps ts row : List Int} (nd : (ps.map Int.toNat).Nodup) (hb : ∀ q ∈ ps, q.toNat < row.length) (hlen : ps.length = ts.length) : ps.map (fun i => (settleM row ps ts).getD i.toNat 0) = ts := by
  apply List.ext_getElem?
  intro i
  rw [List.getElem?_map]
  by_cases hi : i < ps.length
  · have h1 : ps[i]? = some ps[i] := List.getElem?_eq_getElem hi
    have h2 : ts[i]? = some (ts[i]'(by omega)) := List.getElem?_eq_getElem (by omega)
    rw [h1, Option.map_some, List.getD_eq_getElem?_getD, settle_in ps ts row i nd hb h1 h2, h2]
    rfl
  · rw [List.getElem?_eq_none (by omega), List.getElem?_eq_none (by omega)]
    rfl
theorem settle_self {ps row : List Int} (nd : (ps.map Int.toNat).Nodup) (hb : ∀ q ∈ ps, q.toNat < row.length) : settleM row ps (ps.map fun i => row.getD i.toNat 0) = row := by
  refine settle_ext rfl nd hb (by rw [List.length_map]) (fun i p t h1 h2 => ?_) fun _ _ => rfl
  rw [List.getElem?_map, h1, Option.map_some] at h2
  cases h2
  have := hb p (List.mem_of_getElem? h1)
  rw [List.getD_eq_getElem?_getD, List.getElem?_eq_getElem this]
  rfl
/-- laid back: what lay there -/
theorem settle_back {ps ts row : List Int} (nd : (ps.map Int.toNat).Nodup) (hb : ∀ q ∈ ps, q.toNat < row.length) : settleM (settleM row ps ts) ps (ps.map fun i => row.getD i.toNat 0) = row := by
  refine settle_ext (by rw [settle_len]) nd (fun q hq => by rw [settle_len]; exact hb q hq) (by rw [List.length_map]) (fun i p t h1 h2 => ?_) fun p hp => (settle_out ps ts row hp).symm
  rw [List.getElem?_map, h1, Option.map_some] at h2
  cases h2
  have := hb p (List.mem_of_getElem? h1)
  rw [List.getD_eq_getElem?_getD, List.getElem?_eq_getElem this]
  rfl
/-- a loop that changes its own name alone -/
theorem gfor_keep {xc : Xc} {g : TG} {ts : TS} {E : De} {d : Dl} {m : M} (k : Nat) (y0 : Option D) (ds : List D) (h0 : d.set k y0 = d)
    (hs : ∀ (i : Nat) x y, ds[i]? = some x → gg xc g x (d.set k y) m fun d2 m2 => gs xc ts { E with nx := fun d' m' => m' = m ∧ ∃ y, d' = d.set k y, ct := fun d' m' => m' = m ∧ ∃ y, d' = d.set k y, bk := E.nx } d2 m2)
    (hd : ∀ y, E.nx (d.set k y) m) : gfor xc g ts E ds d m := by
  refine gfor_inv (fun _ d' m' => m' = m ∧ ∃ y, d' = d.set k y) ds (fun i x d' m' hx hP => ?_) (fun d' m' hP => ?_) ⟨rfl, y0, h0.symm⟩
  · obtain ⟨rfl, y, rfl⟩ := hP
    exact hs i x y hx
  · obtain ⟨rfl, y, rfl⟩ := hP
    exact hd y
theorem rg_at {n i : Nat} {lo : Int} {x : D} (h : (rgD lo n)[i]? = some x) : i < n ∧ x = .int (lo + (i : Nat)) := by
  have h1 := (List.getElem?_eq_some_iff.mp h).1
  rw [rgD_len] at h1
  unfold rgD at h
  rw [List.getElem?_map, List.getElem?_range h1] at h
  exact ⟨h1, (Option.some.inj h).symm⟩
theorem gfor_keep2 {xc : Xc} {g : TG} {ts : TS} {E : De} {d : Dl} {m : M} (k l : Nat) (y0 z0 : Option D) (ds : List D) (h0 : (d.set k y0).set l z0 = d)
    (hs : ∀ (i : Nat) x y z, ds[i]? = some x → gg xc g x ((d.set k y).set l z) m fun d2 m2 => gs xc ts { E with nx := fun d' m' => m' = m ∧ ∃ y z, d' = (d.set k y).set l z, ct := fun d' m' => m' = m ∧ ∃ y z, d' = (d.set k y).set l z, bk := E.nx } d2 m2)
    (hd : ∀ y z, E.nx ((d.set k y).set l z) m) : gfor xc g ts E ds d m := by
  refine gfor_inv (fun _ d' m' => m' = m ∧ ∃ y z, d' = (d.set k y).set l z) ds (fun i x d' m' hx hP => ?_) (fun d' m' hP => ?_) ⟨rfl, y0, z0, h0.symm⟩
  · obtain ⟨rfl, y, z, rfl⟩ := hP
    exact hs i x y z hx
  · obtain ⟨rfl, y, z, rfl⟩ := hP
    exact hd y z
section
variable {xc : Xc} {d : Dl} {m : M} {Q : D → M → Prop} {ta te : TE} {K : PySem.W.Frag}
theorem ge_index (h : ge xc ta d m fun o m1 => ∃ ds, o = .lst ds ∧ ds.all flatD = true ∧ ge xc te d m1 fun y m2 => ∃ (j : Nat) (z : D), flatD y = true ∧ ds[j]? = some z ∧ deq z y = true ∧ (∀ (k : Nat) z', k < j → ds[k]? = some z' → deq z' y = false) ∧ Q (.int (j : Nat)) m2) :
    ge xc (tBM K "list" (rIndex K) ta (tCons te tNil)) d m Q := fun sg H s e Q' k =>
  h sg H s e _ fun vo H1 o m1 s1 r1 t1 ⟨ds, ho, hf, q⟩ => by
    subst ho
    obtain ⟨a, us, rfl, oa, ea, ra⟩ := r1.lst_inv
    refine ⟨.inl ⟨rfl, us, .inl (.inl ea)⟩, q sg H1 t1 (e.step s1) _ fun vy H2 y m2 s2 r2 t2 ⟨j, z, fy, hz, hd, hno, q2⟩ => ?_⟩
    have ea' := (s2.h2 a _ oa ea).2
    have ra' := ra.step s2
    obtain ⟨v, hv, rv⟩ := ra'.get hz
    have fz : ∀ x ∈ ds, flatD x = true := fun x hx => List.all_eq_true.mp hf x hx
    refine ⟨a, us, vy, j, v, rfl, rfl, .inl (.inl ea'), r2.flat fy, (ra'.inV r2 fy hf).1, hv, by rw [rv.eqV r2 (fz z (List.mem_of_getElem? hz)) fy]; exact hd, fun n w hn hw => ?_, k _ H2 _ m2 (s1.trans s2) (.int _) t2 q2⟩
    obtain ⟨x, hx, rx⟩ := ra'.get' hw
    rw [rx.eqV r2 (fz x (List.mem_of_getElem? hx)) fy]
    exact hno n x hn hx
theorem ge_indexI (h : ge xc ta d m fun o m1 => ∃ ns : List Int, o = intsD ns ∧ ge xc te d m1 fun y m2 => ∃ (j : Nat) (i : Int), y = .int i ∧ ns[j]? = some i ∧ (∀ k : Nat, k < j → ns[k]? ≠ some i) ∧ Q (.int (j : Nat)) m2) :
    ge xc (tBM K "list" (rIndex K) ta (tCons te tNil)) d m Q :=
  ge_index (h.mono fun o m1 ⟨ns, e1, h1⟩ => ⟨ns.map D.int, e1, flat_ints ns, h1.mono fun y m2 ⟨j, i, e2, h2, h3, q⟩ => ⟨j, .int i, by rw [e2]; rfl, by rw [List.getElem?_map, h2]; rfl, by rw [e2, deq_int, decide_eq_true rfl], fun k z hk hz => by
    rw [List.getElem?_map] at hz
    obtain ⟨n, hn, e3⟩ := Option.map_eq_some_iff.mp hz
    subst e3
    rw [e2, deq_int, decide_eq_false (fun w => h3 k hk (by rw [hn, w]))], q⟩⟩)
end
theorem first_at {x : Int} : ∀ {ns : List Int}, x ∈ ns → ∃ j : Nat, ns[j]? = some x ∧ ∀ k : Nat, k < j → ns[k]? ≠ some x
  | n :: ns, h => by
    by_cases z : n = x
    · exact ⟨0, by rw [z]; rfl, fun k hk => absurd hk (Nat.not_lt_zero _)⟩
    · obtain ⟨j, h1, h2⟩ := first_at ((List.mem_cons.mp h).resolve_left fun w => z w.symm)
      refine ⟨j + 1, h1, fun k hk => ?_⟩
      cases k with
      | zero => intro w; exact z (Option.some.inj w)
      | succ k => exact h2 k (by omega)
/-- with as many things as places laying is settling -/
theorem laid_settle {row ts : List Int} {c : Cut} (hc : CutOk c) (hlen : (spanL (spanM c row.length)).length = ts.length) : laidM row c ts = settleM row (spanL (spanM c row.length)) ts := by
  obtain ⟨b, e, s, he, hs, -, -, hsp, hsn⟩ := ends_b hc (l := row.length) (by omega)
  unfold laidM
  rw [he]
  show (if s = 1 then row.take b.toNat ++ ts ++ row.drop (mx b e).toNat else _) = _
  by_cases hf : s = 1
  · subst hf
    obtain ⟨b0, b1, e0, e1⟩ := hsp (by decide)
    have hM : 0 ≤ mx b e ∧ mx b e ≤ row.length ∧ b ≤ mx b e ∧ e ≤ mx b e ∧ (mx b e = b ∨ mx b e = e) := by unfold mx; split <;> omega
    have si := span_in hc (l := row.length) (by omega)
    have hp := spanL_plain he
    have hn : ts.length = (e - b).toNat := by rw [← hlen, hp, List.length_map, List.length_range]
    rw [if_pos rfl]
    symm
    refine settle_ext ?_ si.nodup (fun q hq => by have := si.all q hq; omega) hlen (fun i p t h1 h2 => ?_) (fun p hpo => ?_)
    · rw [List.length_append, List.length_append, List.length_take, List.length_drop]
      omega
    · rw [hp, List.getElem?_map] at h1
      have hi : i < (e - b).toNat := by rw [← hn]; exact (List.getElem?_eq_some_iff.mp h2).1
      rw [List.getElem?_range hi] at h1
      have h1 : some (b + (i : Int)) = some p := h1
      cases h1
      have hl1 : (row.take b.toNat).length = b.toNat := by rw [List.length_take]; omega
      rw [List.append_assoc, List.getElem?_append_right (by omega), List.getElem?_append_left (by omega), hl1, show (b + (i : Int)).toNat - b.toNat = i by omega]
      exact h2
    · have hno : ¬ (b ≤ (p : Int) ∧ (p : Int) < e) := fun z => hpo (p : Int) ((mem_plain he _).mpr z) (by omega)
      have hl1 : (row.take b.toNat).length = b.toNat := by rw [List.length_take]; omega
      by_cases z : p < b.toNat
      · rw [List.append_assoc, List.getElem?_append_left (by omega), List.getElem?_take_of_lt z]
      · rw [List.getElem?_append_right (by rw [List.length_append]; omega), List.length_append, List.getElem?_drop]
        congr 1
        omega
  · rw [if_neg hf]
theorem settle_all {row ts : List Int} (h : ts.length = row.length) : settleM row (rgI row.length) ts = ts := by
  have el : (rgI row.length).length = row.length := by unfold rgI; rw [List.length_map, List.length_range]; rfl
  have hr : (rgI row.length).map Int.toNat = List.range row.length := by
    unfold rgI
    rw [List.map_map]
    have : (Int.toNat ∘ fun i : Nat => (i : Int)) = id := by funext i; rfl
    rw [this, List.map_id]
    rfl
  refine settle_ext h (by rw [hr]; exact List.nodup_range) (fun q hq => ?_) (by rw [el, h]) (fun i p t h1 h2 => ?_) (fun p hp => ?_)
  · have : q.toNat ∈ (rgI row.length).map Int.toNat := List.mem_map.mpr ⟨q, hq, rfl⟩
    rw [hr] at this
    exact List.mem_range.mp this
  · unfold rgI at h1
    have hi : i < row.length := by rw [← h]; exact (List.getElem?_eq_some_iff.mp h2).1
    rw [List.getElem?_map, List.getElem?_range (show i < ((row.length : Nat) : Int).toNat from hi)] at h1
    have h1 : some ((i : Nat) : Int) = some p := h1
    cases h1
    exact h2
  · by_cases z : p < row.length
    · exact absurd rfl (hp (p : Int) (by unfold rgI; exact List.mem_map.mpr ⟨p, List.mem_range.mpr z, rfl⟩))
    · rw [List.getElem?_eq_none (by omega), List.getElem?_eq_none (by omega)]
end Gd

namespace Gd
open PySem PySem.Spec PyProof.Rows L2
/-! ### what two spans have in common -/
/-- the same places, rising -/
def risenM (s : Spn) : Spn := if s.2.1 < 0 then (s.1 + s.2.1 * (s.2.2 - 1), 0 - s.2.1, s.2.2) else s
theorem risen_mem {s : Spn} {x : Int} : x ∈ spanL (risenM s) ↔ x ∈ spanL s := by
  obtain ⟨f, st, n⟩ := s
  unfold risenM
  by_cases h : st < 0
  · rw [if_pos h, spanL_mem, spanL_mem]
    show (∃ i : Nat, i < n.toNat ∧ x = f + st * (n - 1) + (0 - st) * (i : Int)) ↔ ∃ i : Nat, i < n.toNat ∧ x = f + st * (i : Int)
    have key : ∀ i : Nat, i < n.toNat → f + st * (n - 1) + (0 - st) * (i : Int) = f + st * ((n.toNat - 1 - i : Nat) : Int) := fun i hi => by
      have e1 : ((n.toNat - 1 - i : Nat) : Int) = n - 1 - i := by omega
      rw [e1, Int.zero_sub, Int.neg_mul, Int.mul_sub st (n - 1) (i : Int)]
      omega
    constructor
    · rintro ⟨i, hi, e⟩
      exact ⟨n.toNat - 1 - i, by omega, by rw [e, key i hi]⟩
    · rintro ⟨i, hi, e⟩
      refine ⟨n.toNat - 1 - i, by omega, ?_⟩
      rw [e, key (n.toNat - 1 - i) (by omega)]
      congr 3
      omega
  · rw [if_neg h]
/-- of a rising span: by remainders and ends -/
theorem rise_iff {f st n x : Int} (hs : 0 < st) (hn : 0 < n) : x ∈ spanL (f, st, n) ↔ f ≤ x ∧ x ≤ f + st * (n - 1) ∧ st ∣ (x - f) := by
  rw [spanL_mem]
  show (∃ i : Nat, i < n.toNat ∧ x = f + st * (i : Int)) ↔ _
  constructor
  · rintro ⟨i, hi, e⟩
    have h1 : 0 ≤ st * (i : Int) := Int.mul_nonneg (by omega) (by omega)
    have h2 : st * (i : Int) ≤ st * (n - 1) := Int.mul_le_mul_of_nonneg_left (by omega) (by omega)
    exact ⟨by omega, by omega, (i : Int), by omega⟩
  · rintro ⟨h1, h2, k, hk⟩
    have k0 : 0 ≤ k := by
      by_cases z : 0 ≤ k
      · exact z
      · have : st * k ≤ st * (-1) := Int.mul_le_mul_of_nonneg_left (by omega) (by omega)
        omega
    have k1 : k ≤ n - 1 := by
      by_cases z : k ≤ n - 1
      · exact z
      · have h3 : st * n ≤ st * k := Int.mul_le_mul_of_nonneg_left (by omega) (by omega)
        have h4 : st * n = st * (n - 1) + st := by rw [Int.mul_sub, Int.mul_one]; omega
        omega
    exact ⟨k.toNat, by omega, by rw [show ((k.toNat : Nat) : Int) = k by omega]; omega⟩
structure Bez (a b g f : Int) : Prop where
  pos : 0 < g
  da : g ∣ a
  db : g ∣ b
  ex : ∃ u, g = a * f + b * u
/-- two remainders at once -/
theorem both_rem {st by' g f A B x at0 : Int} (hst : 0 < st) (hby : 0 < by') (bz : Bez st by' g f) (hd : g ∣ (B - A)) (hat : at0 = A + st * (((B - A) / g * f) % (by' / g))) :
    (st ∣ (x - A) ∧ by' ∣ (x - B)) ↔ (st / g * by') ∣ (x - at0) := by
  obtain ⟨gp, ⟨a', ha⟩, ⟨b', hb⟩, u, hu⟩ := bz
  obtain ⟨c, hc⟩ := hd
  have g0 : g ≠ 0 := by omega
  have e1 : st / g = a' := by rw [ha, Int.mul_ediv_cancel_left _ g0]
  have e2 : by' / g = b' := by rw [hb, Int.mul_ediv_cancel_left _ g0]
  have e3 : (B - A) / g = c := by rw [hc, Int.mul_ediv_cancel_left _ g0]
  rw [e1]
  rw [e2, e3] at hat
  have b0 : 0 < b' := by
    by_cases z : 0 < b'
    · exact z
    · have : g * b' ≤ g * 0 := Int.mul_le_mul_of_nonneg_left (by omega) (by omega)
      omega
  -- at0 = A + st * (c * f - b' * q)
  have hq : (c * f) % b' = c * f - b' * (c * f / b') := by
    have := Int.mul_ediv_add_emod (c * f) b'
    omega
  rw [hq] at hat
  generalize c * f / b' = q at hat
  -- a' f + b' u = 1
  have h1 : g * (a' * f + b' * u) = g * 1 := by
    rw [Int.mul_add, ← Int.mul_assoc, ← Int.mul_assoc, ← ha, ← hb, Int.mul_one]
    exact hu.symm
  have h1 : a' * f + b' * u = 1 := Int.eq_of_mul_eq_mul_left g0 h1
  have sA : st ∣ (at0 - A) := ⟨c * f - b' * q, by rw [hat]; omega⟩
  have sB : by' ∣ (at0 - B) := by
    refine ⟨-(u * c) - a' * q, ?_⟩
    have hBA : B - A = g * c := hc
    have t1 : st * (c * f - b' * q) = g * (a' * f) * c - g * (a' * b') * q := by
      rw [ha, Int.mul_sub]
      congr 1
      · simp only [Int.mul_assoc, Int.mul_comm c f, Int.mul_left_comm]
      · simp only [Int.mul_assoc]
    have t2 : by' * (-(u * c) - a' * q) = -(g * (b' * u) * c) - g * (a' * b') * q := by
      rw [hb, Int.mul_sub, Int.mul_neg]
      congr 1
      · congr 1
        simp only [Int.mul_assoc]
      · simp only [Int.mul_assoc, Int.mul_comm a' b', Int.mul_left_comm]
    have t3 : g * (a' * f) * c + g * (b' * u) * c = g * c := by
      rw [← Int.add_mul, ← Int.mul_add, h1, Int.mul_one]
    rw [t2]
    omega
  constructor
  · rintro ⟨hx1, hx2⟩
    have d1 : st ∣ (x - at0) := by
      have : x - at0 = (x - A) - (at0 - A) := by omega
      rw [this]
      exact Int.dvd_sub hx1 sA
    have d2 : by' ∣ (x - at0) := by
      have : x - at0 = (x - B) - (at0 - B) := by omega
      rw [this]
      exact Int.dvd_sub hx2 sB
    generalize x - at0 = y at d1 d2
    obtain ⟨i, hi⟩ := d1
    obtain ⟨j, hj⟩ := d2
    -- i = b' * (..)
    have h2 : g * (a' * i) = g * (b' * j) := by
      rw [← Int.mul_assoc, ← Int.mul_assoc, ← ha, ← hb]
      omega
    have h2 : a' * i = b' * j := Int.eq_of_mul_eq_mul_left g0 h2
    have h3 : i = b' * (j * f + u * i) := by
      have t : i = a' * f * i + b' * u * i := by rw [← Int.add_mul, h1, Int.one_mul]
      have t2 : a' * f * i = b' * (j * f) := by rw [Int.mul_right_comm, h2, Int.mul_assoc]
      have t3 : b' * u * i = b' * (u * i) := Int.mul_assoc ..
      rw [Int.mul_add]
      omega
    refine ⟨j * f + u * i, ?_⟩
    rw [hi, ha, hb]
    conv => lhs; rw [h3]
    simp only [Int.mul_assoc, Int.mul_left_comm]
  · rintro ⟨k, hk⟩
    have d1 : st ∣ (x - at0) := ⟨b' * k, by rw [hk, ha, hb]; simp only [Int.mul_assoc, Int.mul_left_comm]⟩
    have d2 : by' ∣ (x - at0) := ⟨a' * k, by rw [hk]; simp only [Int.mul_assoc, Int.mul_left_comm]⟩
    constructor
    · have : x - A = (x - at0) + (at0 - A) := by omega
      rw [this]
      exact Int.dvd_add d1 sA
    · have : x - B = (x - at0) + (at0 - B) := by omega
      rw [this]
      exact Int.dvd_add d2 sB

structure Common (s t r : Spn) : Prop where
  nf : Nf r
  pos : 0 < r.2.1
  mem : ∀ x, x ∈ spanL r ↔ x ∈ spanL s ∧ x ∈ spanL t
theorem spanL_nil {s : Spn} (h : s.2.2 = 0) : spanL s = [] := by
  unfold spanL
  rw [h]
  rfl
theorem Common.risen {s t r : Spn} (h : Common (risenM s) (risenM t) r) : Common s t r := ⟨h.nf, h.pos, fun x => by rw [h.mem, risen_mem, risen_mem]⟩
theorem common_none {s t : Spn} (h : ∀ x, x ∈ spanL s → x ∈ spanL t → False) : Common s t (0, 1, 0) :=
  ⟨⟨by decide, fun _ => rfl, fun z => absurd (show (0 : Int) = 1 from z) (by decide)⟩, by show (0 : Int) < 1; decide, fun x => ⟨(fun z => by rw [spanL_nil rfl] at z; cases z), fun ⟨a, b⟩ => (h x a b).elim⟩⟩
theorem common_apart {A st n B by' c g f : Int} (hst : 0 < st) (hby : 0 < by') (hn : 0 < n) (hc : 0 < c) (bz : Bez st by' g f) (hd : ¬ g ∣ (B - A)) : Common (A, st, n) (B, by', c) (0, 1, 0) := common_none fun x h1 h2 => by
  have d1 := ((rise_iff hst hn).mp h1).2.2
  have d2 := ((rise_iff hby hc).mp h2).2.2
  apply hd
  have : B - A = (x - A) - (x - B) := by omega
  rw [this]
  exact Int.dvd_sub (Int.dvd_trans bz.da d1) (Int.dvd_trans bz.db d2)
theorem common_is {A st n B by' c g f at0 at1 low high wide : Int} (hst : 0 < st) (hby : 0 < by') (hn : 0 < n) (hc : 0 < c) (bz : Bez st by' g f) (hd : g ∣ (B - A))
    (hw : wide = st / g * by') (hat : at0 = A + st * (((B - A) / g * f) % (by' / g))) (hlow : low = if B > A then B else A) (hat1 : at1 = at0 + (low - at0 + wide - 1) / wide * wide)
    (hhigh : high = if B + by' * (c - 1) < A + st * (n - 1) then B + by' * (c - 1) else A + st * (n - 1)) : 0 < wide ∧ Common (A, st, n) (B, by', c) (plainM at1 wide ((high - at1) / wide + 1)) := by
  have key := fun x => both_rem (x := x) hst hby bz hd hat
  rw [← hw] at key
  have w0 : 0 < wide := by
    obtain ⟨gp, ⟨a', ha⟩, _, _⟩ := bz
    have e1 : st / g = a' := by rw [ha, Int.mul_ediv_cancel_left _ (by omega)]
    rw [hw, e1]
    refine Int.mul_pos ?_ hby
    by_cases z : 0 < a'
    · exact z
    · have : g * a' ≤ g * 0 := Int.mul_le_mul_of_nonneg_left (by omega) (by omega)
      omega
  refine ⟨w0, plain_nf _ _ _, ?_, fun x => ?_⟩
  · unfold plainM
    by_cases z : (high - at1) / wide + 1 < 1
    · rw [if_pos z]; show (0 : Int) < 1; decide
    · rw [if_neg z]
      show 0 < (if 1 < (high - at1) / wide + 1 then wide else 1)
      split <;> omega
  · rw [rise_iff hst hn, rise_iff hby hc]
    have hl : low ≤ at1 ∧ at1 < low + wide ∧ ∃ k, at1 = at0 + wide * k := by
      have h1 := Int.mul_ediv_add_emod (low - at0 + wide - 1) wide
      have h2 := Int.emod_nonneg (low - at0 + wide - 1) (show wide ≠ 0 by omega)
      have h3 := Int.emod_lt_of_pos (low - at0 + wide - 1) w0
      have h4 : (low - at0 + wide - 1) / wide * wide = wide * ((low - at0 + wide - 1) / wide) := Int.mul_comm ..
      exact ⟨by omega, by omega, (low - at0 + wide - 1) / wide, by omega⟩
    obtain ⟨l1, l2, k0, hk0⟩ := hl
    have shift : wide ∣ (x - at0) ↔ wide ∣ (x - at1) := by
      have e : x - at0 = (x - at1) + wide * k0 := by omega
      constructor
      · intro h
        have : x - at1 = (x - at0) - wide * k0 := by omega
        rw [this]
        exact Int.dvd_sub h ⟨k0, rfl⟩
      · intro h
        rw [e]
        exact Int.dvd_add h ⟨k0, rfl⟩
    have rhs : (A ≤ x ∧ x ≤ A + st * (n - 1) ∧ st ∣ (x - A)) ∧ (B ≤ x ∧ x ≤ B + by' * (c - 1) ∧ by' ∣ (x - B)) ↔ low ≤ x ∧ x ≤ high ∧ wide ∣ (x - at1) := by
      rw [← shift, ← key x]
      constructor
      · rintro ⟨⟨h1, h2, h3⟩, h4, h5, h6⟩
        refine ⟨?_, ?_, h3, h6⟩
        · rw [hlow]; split <;> omega
        · rw [hhigh]; split <;> omega
      · rintro ⟨h1, h2, h3, h4⟩
        rw [hlow] at h1
        rw [hhigh] at h2
        refine ⟨⟨?_, ?_, h3⟩, ?_, ?_, h4⟩
        · split at h1 <;> omega
        · split at h2 <;> omega
        · split at h1 <;> omega
        · split at h2 <;> omega
    rw [rhs]
    have q1 := Int.mul_ediv_add_emod (high - at1) wide
    have q2 := Int.emod_nonneg (high - at1) (show wide ≠ 0 by omega)
    have q3 := Int.emod_lt_of_pos (high - at1) w0
    generalize hm : (high - at1) / wide = mm at q1
    generalize (high - at1) % wide = rr at q1 q2 q3
    have up : ∀ k : Int, at1 + wide * k ≤ high ↔ k ≤ mm := fun k => by
      constructor
      · intro h
        by_cases z : k ≤ mm
        · exact z
        · have : wide * (mm + 1) ≤ wide * k := Int.mul_le_mul_of_nonneg_left (by omega) (by omega)
          have e : wide * (mm + 1) = wide * mm + wide := by rw [Int.mul_add, Int.mul_one]
          omega
      · intro h
        have : wide * k ≤ wide * mm := Int.mul_le_mul_of_nonneg_left h (by omega)
        omega
    rw [spanL_mem]
    unfold plainM
    by_cases z : mm + 1 < 1
    · rw [if_pos z]
      constructor
      · rintro ⟨i, hi, _⟩
        exact absurd hi (Nat.not_lt_zero _)
      · rintro ⟨h1, h2, k, hk⟩
        have : k ≤ mm := (up k).mp (by omega)
        have : wide * k ≤ wide * (-1) := Int.mul_le_mul_of_nonneg_left (by omega) (by omega)
        omega
    · rw [if_neg z]
      show (∃ i : Nat, i < (mm + 1).toNat ∧ x = at1 + (if 1 < mm + 1 then wide else 1) * (i : Int)) ↔ _
      have hst2 : ∀ i : Nat, i < (mm + 1).toNat → (if 1 < mm + 1 then wide else 1) * (i : Int) = wide * (i : Int) := fun i hi => by
        by_cases z1 : 1 < mm + 1
        · rw [if_pos z1]
        · have : (i : Int) = 0 := by omega
          rw [this, Int.mul_zero, Int.mul_zero]
      constructor
      · rintro ⟨i, hi, e⟩
        rw [hst2 i hi] at e
        have h0 : 0 ≤ wide * (i : Int) := Int.mul_nonneg (by omega) (by omega)
        refine ⟨by omega, ?_, (i : Int), by omega⟩
        rw [e]
        exact (up _).mpr (by omega)
      · rintro ⟨h1, h2, k, hk⟩
        have k1 : k ≤ mm := (up k).mp (by omega)
        have k0 : 0 ≤ k := by
          by_cases z : 0 ≤ k
          · exact z
          · have : wide * k ≤ wide * (-1) := Int.mul_le_mul_of_nonneg_left (by omega) (by omega)
            omega
        refine ⟨k.toNat, by omega, ?_⟩
        rw [hst2 k.toNat (by omega), show ((k.toNat : Nat) : Int) = k by omega]
        omega
theorem rise_sorted {s : Spn} (h : 0 < s.2.1) : (spanL s).Pairwise (· < ·) := by
  unfold spanL
  rw [List.pairwise_map]
  refine List.Pairwise.imp (fun {a b} hab => ?_) List.pairwise_lt_range
  have : s.2.1 * (a : Int) < s.2.1 * (b : Int) := Int.mul_lt_mul_of_pos_left (by omega) h
  omega
/-- two strictly rising lists with the same members -/
theorem sorted_ext : ∀ {xs ys : List Int}, xs.Pairwise (· < ·) → ys.Pairwise (· < ·) → (∀ x, x ∈ xs ↔ x ∈ ys) → xs = ys
  | [], [], _, _, _ => rfl
  | [], y :: ys, _, _, h => absurd ((h y).mpr List.mem_cons_self) (by simp)
  | x :: xs, [], _, _, h => absurd ((h x).mp List.mem_cons_self) (by simp)
  | x :: xs, y :: ys, hx, hy, h => by
    rw [List.pairwise_cons] at hx hy
    have e : x = y := by
      rcases List.mem_cons.mp ((h x).mp List.mem_cons_self) with e | h1
      · exact e
      · rcases List.mem_cons.mp ((h y).mpr List.mem_cons_self) with e | h2
        · exact e.symm
        · have := hx.1 y h2
          have := hy.1 x h1
          omega
    subst e
    congr 1
    refine sorted_ext hx.2 hy.2 fun z => ?_
    constructor
    · intro hz
      rcases List.mem_cons.mp ((h z).mp (List.mem_cons_of_mem _ hz)) with e | h1
      · have := hx.1 z hz
        omega
      · exact h1
    · intro hz
      rcases List.mem_cons.mp ((h z).mpr (List.mem_cons_of_mem _ hz)) with e | h1
      · have := hy.1 z hz
        omega
      · exact h1
/-- a span in the told form is told by its places -/
theorem Nf.of_list {s t : Spn} (hs : Nf s) (ht : Nf t) (h : spanL s = spanL t) : s = t := by
  obtain ⟨f, st, n⟩ := s
  obtain ⟨f2, st2, n2⟩ := t
  have n0 : 0 ≤ n := hs.n0
  have m0 : 0 ≤ n2 := ht.n0
  have hl : n.toNat = n2.toNat := by
    have := congrArg List.length h
    unfold spanL at this
    rw [List.length_map, List.length_map, List.length_range, List.length_range] at this
    exact this
  have hn : n = n2 := by omega
  subst hn
  by_cases z : n = 0
  · rw [hs.zero z, ht.zero z]
  · have g : ∀ i : Nat, i < n.toNat → f + st * (i : Int) = f2 + st2 * (i : Int) := fun i hi => by
      have := congrArg (fun l => l[i]?) h
      unfold spanL at this
      simp only [List.getElem?_map, List.getElem?_range hi, Option.map_some, Option.some.injEq] at this
      exact this
    have h0 := g 0 (by omega)
    simp only [Int.ofNat_zero, Int.mul_zero, Int.add_zero] at h0
    by_cases z1 : n = 1
    · rw [show st = 1 from hs.one z1, show st2 = 1 from ht.one z1, h0]
    · have h1 := g 1 (by omega)
      simp only [Int.natCast_one, Int.mul_one] at h1
      rw [h0, show st = st2 by omega]
theorem Common.uniq {s t r r' : Spn} (h : Common s t r) (h' : Common s t r') : r = r' := h.nf.of_list h'.nf (sorted_ext (rise_sorted h.pos) (rise_sorted h'.pos) fun x => by rw [h.mem, h'.mem])
theorem Common.swap {s t r : Spn} (h : Common s t r) : Common t s r := ⟨h.nf, h.pos, fun x => by rw [h.mem]; exact ⟨fun ⟨a, b⟩ => ⟨b, a⟩, fun ⟨a, b⟩ => ⟨b, a⟩⟩⟩
theorem Common.empty {s t r : Spn} (h : Common s t r) : r.2.2 = 0 ↔ ∀ x, x ∈ spanL s → x ∉ spanL t := by
  constructor
  · intro z x h1 h2
    have := (h.mem x).mpr ⟨h1, h2⟩
    rw [spanL_nil z] at this
    cases this
  · intro hh
    by_cases z : r.2.2 = 0
    · exact z
    · have n0 := h.nf.n0
      have m : r.1 + r.2.1 * ((0 : Nat) : Int) ∈ spanL r := spanL_mem.mpr ⟨0, by omega, rfl⟩
      obtain ⟨a, b⟩ := (h.mem _).mp m
      exact absurd b (hh _ a)
theorem g2_divW {m : M} {Q : D → M → Prop} {i j : Int} (h0 : 0 < j) (h1 : j < 1152921504606846976) (q : Q (.int (i / j)) m) : g2 (rI CDivW fun i j => .int (i / j)) (.int i) (.int j) m Q :=
  g2_intC (g := fun i j => i / j) (wide_div h0 (b := 60) (by omega) (by decide) (by decide)) q
structure SpB (s : Spn) : Prop where
  n0 : 0 ≤ s.2.2
  n1 : s.2.2 ≤ 1000000000
  nz : s.2.1 ≠ 0
  st : -1000000000 ≤ s.2.1 ∧ s.2.1 ≤ 1000000000
  f : -10000000000 ≤ s.1 ∧ s.1 ≤ 10000000000
  e : -10000000000 ≤ s.1 + s.2.1 * (s.2.2 - 1) ∧ s.1 + s.2.1 * (s.2.2 - 1) ≤ 10000000000
theorem SpanIn.spB {s : Spn} {l : Int} (h : SpanIn s l) (hl : l ≤ 1000000000) : SpB s := by
  have n0 := h.n0
  have nl := h.nl
  by_cases z : s.2.2 = 0
  · rw [h.zero z]
    exact ⟨by decide, by decide, by show (1 : Int) ≠ 0; decide, by decide, by decide, by decide⟩
  · have m0 := h.mem 0 (by show ((0 : Nat) : Int) < s.2.2; omega)
    have m1 := h.mem (s.2.2 - 1).toNat (by omega)
    rw [show (((s.2.2 - 1).toNat : Nat) : Int) = s.2.2 - 1 by omega] at m1
    simp only [Int.ofNat_zero, Int.mul_zero, Int.add_zero] at m0
    exact ⟨n0, by omega, h.nz, h.st, by omega, by omega⟩
theorem SpB.risen {s : Spn} (h : SpB s) : SpB (risenM s) ∧ 0 < (risenM s).2.1 := by
  have h1 := h.nz
  have h2 := h.st
  unfold risenM
  by_cases z : s.2.1 < 0
  · rw [if_pos z]
    refine ⟨⟨h.n0, h.n1, by show 0 - s.2.1 ≠ 0; omega, by show -1000000000 ≤ 0 - s.2.1 ∧ 0 - s.2.1 ≤ 1000000000; omega, h.e, ?_⟩, by show 0 < 0 - s.2.1; omega⟩
    show -10000000000 ≤ s.1 + s.2.1 * (s.2.2 - 1) + (0 - s.2.1) * (s.2.2 - 1) ∧ s.1 + s.2.1 * (s.2.2 - 1) + (0 - s.2.1) * (s.2.2 - 1) ≤ 10000000000
    have e : (0 - s.2.1) * (s.2.2 - 1) = -(s.2.1 * (s.2.2 - 1)) := by rw [Int.zero_sub, Int.neg_mul]
    have := h.f
    omega
  · rw [if_neg z]
    exact ⟨h, by omega⟩
theorem Bez.le {a b g f : Int} (h : Bez a b g f) (ha : 0 < a) (hb : 0 < b) : g ≤ a ∧ g ≤ b := ⟨Int.le_of_dvd ha h.da, Int.le_of_dvd hb h.db⟩
section
variable {m : M} {Q : D → M → Prop} {a b : Bool}
theorem g2_isBl (q : Q (.bl (decide (a = b))) m) : g2 rIsB (.bl a) (.bl b) m Q := fun H vx vy s r1 r2 Q' k => by
  rw [r1.bl_inv, r2.bl_inv]
  exact ⟨a, b, rfl, rfl, k _ H _ m .refl (.bl _) s q⟩
theorem g2_notBl (q : Q (.bl (!decide (a = b))) m) : g2 rNotB (.bl a) (.bl b) m Q := fun H vx vy s r1 r2 Q' k => by
  rw [r1.bl_inv, r2.bl_inv]
  exact ⟨a, b, rfl, rfl, k _ H _ m .refl (.bl _) s q⟩
end
/-! ### laid at two sets of places -/
theorem settle_comm {p q s t row : List Int} (np : (p.map Int.toNat).Nodup) (nq : (q.map Int.toNat).Nodup) (hp : ∀ x ∈ p, x.toNat < row.length) (hq : ∀ x ∈ q, x.toNat < row.length) (lp : p.length = s.length) (lq : q.length = t.length)
    (hd : ∀ x ∈ p, ∀ y ∈ q, x.toNat ≠ y.toNat) : settleM (settleM row p s) q t = settleM (settleM row q t) p s := by
  refine settle_ext (by rw [settle_len, settle_len, settle_len]) nq (fun x hx => by rw [settle_len]; exact hq x hx) lq (fun i x u h1 h2 => ?_) (fun k hk => ?_)
  · rw [settle_out p s _ fun y hy => hd y hy x (List.mem_of_getElem? h1)]
    exact settle_in q t row i nq hq h1 h2
  · by_cases h : ∃ y ∈ p, y.toNat = k
    · obtain ⟨y, hy, e⟩ := h
      obtain ⟨i, hi, e2⟩ := List.mem_iff_getElem.mp hy
      have h1 : p[i]? = some y := by rw [List.getElem?_eq_getElem hi, e2]
      have h2 : s[i]? = some (s[i]'(by omega)) := List.getElem?_eq_getElem (by omega)
      rw [← e, settle_in p s (settleM row q t) i np (fun x hx => by rw [settle_len]; exact hp x hx) h1 h2, settle_in p s row i np hp h1 h2]
    · have h' : ∀ y ∈ p, y.toNat ≠ k := fun y hy z => h ⟨y, hy, z⟩
      rw [settle_out p s _ h', settle_out p s _ h', settle_out q t _ hk]
/-- what was laid first is still there, where nothing else was laid -/
theorem settle_first {p q s t row : List Int} (np : (p.map Int.toNat).Nodup) (hp : ∀ x ∈ p, x.toNat < row.length) (lp : p.length = s.length) (hd : ∀ x ∈ p, ∀ y ∈ q, x.toNat ≠ y.toNat) : p.map (fun i => (settleM (settleM row p s) q t).getD i.toNat 0) = s := by
  have e : p.map (fun i => (settleM (settleM row p s) q t).getD i.toNat 0) = p.map (fun i => (settleM row p s).getD i.toNat 0) := by
    apply List.map_congr_left
    intro x hx
    rw [List.getD_eq_getElem?_getD, List.getD_eq_getElem?_getD, settle_out q t _ fun y hy z => hd x hx y hy z.symm]
  rw [e, settle_take np hp lp]
theorem settle_apart {p q s t row : List Int} (np : (p.map Int.toNat).Nodup) (nq : (q.map Int.toNat).Nodup) (hp : ∀ x ∈ p, x.toNat < row.length) (hq : ∀ x ∈ q, x.toNat < row.length) (lp : p.length = s.length) (lq : q.length = t.length)
    (hst : ∀ a ∈ s, ∀ b ∈ t, a ≠ b) {x : Int} (h1 : x ∈ p) (h2 : x ∈ q) : settleM (settleM row p s) q t ≠ settleM (settleM row q t) p s := fun z => by
  obtain ⟨i, hi, e1⟩ := List.mem_iff_getElem.mp h1
  obtain ⟨j, hj, e2⟩ := List.mem_iff_getElem.mp h2
  have g1 : p[i]? = some x := by rw [List.getElem?_eq_getElem hi, e1]
  have g2 : q[j]? = some x := by rw [List.getElem?_eq_getElem hj, e2]
  have g3 : s[i]? = some (s[i]'(by omega)) := List.getElem?_eq_getElem (by omega)
  have g4 : t[j]? = some (t[j]'(by omega)) := List.getElem?_eq_getElem (by omega)
  have a := settle_in q t (settleM row p s) j nq (fun x hx => by rw [settle_len]; exact hq x hx) g2 g4
  have b := settle_in p s (settleM row q t) i np (fun x hx => by rw [settle_len]; exact hp x hx) g1 g3
  rw [z, b] at a
  exact hst _ (List.getElem_mem _) _ (List.getElem_mem _) (Option.some.inj a)
/-! ### a row parted by steps -/
theorem combOk {k by' : Int} (hk : 0 ≤ k ∧ k ≤ 1000) (hb : 1 ≤ by' ∧ by' ≤ 1000) : CutOk (some k, none, some by') := ⟨(fun i e => by cases e; omega), (fun i e => by cases e), (fun i e => by cases e; omega), (fun e => by cases e; omega)⟩
theorem mem_comb {k by' l x : Int} (hk : 0 ≤ k) (hkb : k < by') (hl : 0 ≤ l) : x ∈ spanL (spanM (some k, none, some by') l) ↔ 0 ≤ x ∧ x < l ∧ x % by' = k := by
  have hb : 0 < by' := by omega
  have he : endsM (some k, none, some by') l = (mx 0 (mn l k), l, by') := by
    simp only [endsM, if_pos hb]
    show (mx 0 (mn l (if k < 0 then k + l else k)), l, by') = _
    rw [if_neg (by omega)]
  have hm : 0 ≤ mx 0 (mn l k) ∧ (k < l → mx 0 (mn l k) = k) ∧ (l ≤ k → mx 0 (mn l k) = l) := by
    unfold mx mn
    refine ⟨?_, fun h => ?_, fun h => ?_⟩ <;> (split <;> split <;> omega)
  generalize mx 0 (mn l k) = b at he hm
  obtain ⟨n, n1, n2, n3⟩ := spanL_ends he (by omega)
  rw [n1]
  constructor
  · intro h
    obtain ⟨i, hi, e⟩ := List.mem_map.mp h
    have hi := List.mem_range.mp hi
    have h1 := (n3 i (by omega)).mpr hi
    have h0 : 0 ≤ by' * (i : Int) := Int.mul_nonneg (by omega) (by omega)
    have hkl : k < l := by
      by_cases z : k < l
      · exact z
      · have := hm.2.2 (by omega); omega
    have hbk := hm.2.1 hkl
    refine ⟨by omega, by omega, ?_⟩
    rw [← e, hbk, Int.add_mul_emod_self_left]
    exact Int.emod_eq_of_lt hk hkb
  · rintro ⟨h0, h1, h2⟩
    have h3 := Int.mul_ediv_add_emod x by'
    have q0 : 0 ≤ x / by' := Int.ediv_nonneg h0 (by omega)
    have h4 : 0 ≤ by' * (x / by') := Int.mul_nonneg (by omega) q0
    have hbk := hm.2.1 (by omega)
    have e : b + by' * (((x / by').toNat : Nat) : Int) = x := by
      rw [show (((x / by').toNat : Nat) : Int) = x / by' by omega]
      omega
    refine List.mem_map.mpr ⟨(x / by').toNat, List.mem_range.mpr ?_, e⟩
    by_cases z : (x / by').toNat < n
    · exact z
    · exfalso
      have h5 := n3 n (Nat.le_refl n)
      have h6 : by' * (n : Int) ≤ by' * (x / by') := Int.mul_le_mul_of_nonneg_left (by omega) (by omega)
      omega
theorem mem_rgI {n x : Int} : x ∈ rgI n ↔ 0 ≤ x ∧ x < n := by
  unfold rgI
  constructor
  · intro h
    obtain ⟨i, hi, e⟩ := List.mem_map.mp h
    have := List.mem_range.mp hi
    omega
  · intro h
    exact List.mem_map.mpr ⟨x.toNat, List.mem_range.mpr (by omega), by omega⟩
theorem rgI_sorted (n : Int) : (rgI n).Pairwise (· < ·) := by
  unfold rgI
  rw [List.pairwise_map]
  exact List.Pairwise.imp (fun {a b} hab => by omega) List.pairwise_lt_range
theorem lt_of_le_nodup : ∀ {xs : List Int}, xs.Pairwise (· ≤ ·) → xs.Nodup → xs.Pairwise (· < ·)
  | [], _, _ => .nil
  | x :: xs, h, nd => by
    rw [List.pairwise_cons] at h
    rw [List.nodup_cons] at nd
    refine .cons (fun y hy => ?_) (lt_of_le_nodup h.2 nd.2)
    have h1 := h.1 y hy
    have : x ≠ y := fun z => nd.1 (by rw [z]; exact hy)
    omega
theorem nodup_of_lt : ∀ {xs : List Int}, xs.Pairwise (· < ·) → xs.Nodup := fun h => List.Pairwise.imp (fun {a b} hab => by omega) h
/-- a sorted list is told by its members, if none is twice -/
theorem sorted_is {xs ys zs : List Int} (hp : xs.Perm ys) (hs : xs.Pairwise (· ≤ ·)) (hn : ys.Nodup) (hz : zs.Pairwise (· < ·)) (hm : ∀ x, x ∈ ys ↔ x ∈ zs) : xs = zs :=
  sorted_ext (lt_of_le_nodup hs (hp.nodup_iff.mpr hn)) hz fun x => by rw [hp.mem_iff, hm]
theorem nodup_of_toNat {xs : List Int} (h : (xs.map Int.toNat).Nodup) : xs.Nodup := by
  rw [List.Nodup, List.pairwise_map] at h
  exact h.imp fun {a b} hab z => hab (by rw [z])
def combs (by' : Int) : List Cut := (List.range by'.toNat).map fun k : Nat => ((some (k : Int), none, some by') : Cut)
theorem combs_parts {by' l : Int} (hb : 1 ≤ by' ∧ by' ≤ 1000) (hl : 0 ≤ l) {ns : List Int} (hp : ns.Perm ((combs by').flatMap fun c => spanL (spanM c l))) (hs : ns.Pairwise (· ≤ ·)) : ns = rgI l := by
  refine sorted_is hp hs ?_ (rgI_sorted l) fun x => ?_
  · unfold combs
    rw [List.Nodup, List.pairwise_flatMap]
    constructor
    · intro c hc
      obtain ⟨k, hk, e⟩ := List.mem_map.mp hc
      have hk := List.mem_range.mp hk
      have h1 := (span_in (combOk (k := k) (by' := by') ⟨by omega, by omega⟩ hb) hl).nodup
      rw [e] at h1
      exact nodup_of_toNat h1
    · rw [List.pairwise_map]
      refine List.Pairwise.imp_of_mem (fun {a b} ha hb hab => ?_) List.pairwise_lt_range
      have ha := List.mem_range.mp ha
      have hb := List.mem_range.mp hb
      intro x hx y hy z
      have h1 := (mem_comb (by omega) (by omega) hl).mp hx
      have h2 := (mem_comb (by omega) (by omega) hl).mp hy
      rw [z] at h1
      omega
  · unfold combs
    rw [List.mem_flatMap, mem_rgI]
    constructor
    · rintro ⟨c, hc, hx⟩
      obtain ⟨k, hk, e⟩ := List.mem_map.mp hc
      have hk := List.mem_range.mp hk
      rw [← e] at hx
      have := (mem_comb (by omega) (by omega) hl).mp hx
      omega
    · rintro ⟨h0, h1⟩
      have m0 := Int.emod_nonneg x (show by' ≠ 0 by omega)
      have m1 := Int.emod_lt_of_pos x (show 0 < by' by omega)
      refine ⟨_, List.mem_map.mpr ⟨(x % by').toNat, List.mem_range.mpr (by omega), rfl⟩, ?_⟩
      exact (mem_comb (by omega) (by omega) hl).mpr ⟨h0, h1, by omega⟩
section
variable {xc : Xc} {d : Dl} {m : M} {E : De} {ts tu : TS}
/-- a statement whose ways meet again -/
theorem gs_join (J : Dl → M → Prop) (h : gs xc ts { E with nx := J } d m) (k : ∀ d m, J d m → gs xc tu E d m) : gs xc (tSeq ts tu) E d m := fun sg H s e E' ok =>
  h sg H s e { E' with nx := tu E' } ⟨fun sg' H' d' m' s1 t1 e1 q => k d' m' q sg' H' t1 e1 E' (ok.step s1), ok.rt, ok.bk, ok.ct⟩
end
/-- a comprehension told item by item -/
theorem glc_rel {xc : Xc} {d : Dl} {m : M} {p : Addr} {R : List D → M → Prop} {g : TG} {te : TE} (ys ds : List D) (hlen : ys.length = ds.length) (hl : ds.length < 100000)
    (h : ∀ (i : Nat) x y, ds[i]? = some x → ys[i]? = some y → ∀ acc, gg xc g x d ((p, .lst acc) :: m) fun d2 m2 => ge xc te d2 m2 fun z m4 => z = y ∧ m4 = (p, .lst acc) :: m)
    (hR : R ys m) : glc xc g tYes te d p R ds [] m := by
  refine glc_inv (fun i acc m' => acc = ys.take i ∧ m' = m) ds (fun i x acc m' hx hP => ?_) (fun acc m' hP => ?_) ⟨by rw [List.take_zero], rfl⟩
  · obtain ⟨rfl, rfl⟩ := hP
    have hi : i < ds.length := (List.getElem?_eq_some_iff.mp hx).1
    have hy : ys[i]? = some (ys[i]'(by omega)) := List.getElem?_eq_getElem (by omega)
    refine (h i x _ hx hy (ys.take i)).mono fun d2 m2 q => gt_yes (ite_t rfl (q.mono fun z m4 ⟨e1, e2⟩ => ⟨m', e2, by rw [List.length_take]; omega, ?_, rfl⟩))
    rw [List.take_add_one, hy, e1]
    rfl
  · obtain ⟨rfl, rfl⟩ := hP
    rw [← hlen, List.take_length]
    exact hR
theorem rep_ints (k : Nat) (xs : List Int) : (List.replicate k (xs.map D.int)).flatten = ((List.replicate k xs).flatten).map D.int := by
  induction k with
  | zero => rfl
  | succ k ih => rw [List.replicate_succ, List.replicate_succ, List.flatten_cons, List.flatten_cons, List.map_append, ih]
theorem rep_len (k : Nat) (x : Int) : (List.replicate k [x]).flatten.length = k := by
  induction k with
  | zero => rfl
  | succ k ih => rw [List.replicate_succ, List.flatten_cons, List.length_append, ih]; simp; omega
/-- by steps, part by part -/
theorem comb_lay {row left : List Int} {by' : Int} {i : Nat} (hb : 1 ≤ by' ∧ by' ≤ 1000) (hi : (i : Int) < by') (hl : left.length = row.length) (h : ∀ x : Nat, x < row.length → (x : Int) % by' < i → left[x]? = row[x]?) :
    (settleM left (spanL (spanM (some (i : Int), none, some by') row.length)) (takenM row (some (i : Int), none, some by'))).length = row.length ∧
    ∀ x : Nat, x < row.length → (x : Int) % by' < ((i + 1 : Nat) : Int) → (settleM left (spanL (spanM (some (i : Int), none, some by') row.length)) (takenM row (some (i : Int), none, some by')))[x]? = row[x]? := by
  have si := span_in (combOk (k := i) (by' := by') ⟨by omega, by omega⟩ hb) (l := row.length) (by omega)
  refine ⟨by rw [settle_len, hl], fun x hx hm => ?_⟩
  unfold takenM
  have mem := fun x : Int => mem_comb (k := i) (by' := by') (l := row.length) (x := x) (by omega) hi (by omega)
  by_cases z : (x : Int) % by' = i
  · have hxm : (x : Int) ∈ spanL (spanM (some (i : Int), none, some by') row.length) := (mem _).mpr ⟨by omega, by omega, z⟩
    obtain ⟨j, hj, e⟩ := List.mem_iff_getElem.mp hxm
    have h1 := List.getElem?_eq_getElem hj
    rw [e] at h1
    have := settle_in _ ((spanL (spanM (some (i : Int), none, some by') row.length)).map fun i => row.getD i.toNat 0) left j si.nodup (fun q hq => by have := si.all q hq; omega) h1 (by rw [List.getElem?_map, h1]; rfl)
    rw [show ((x : Nat) : Int).toNat = x from rfl] at this
    rw [this]
    show some (row.getD x 0) = row[x]?
    rw [List.getD_eq_getElem?_getD, List.getElem?_eq_getElem hx]
    rfl
  · rw [settle_out _ _ _ fun q hq w => z (by have := (mem q).mp hq; rw [show (x : Int) = q by omega]; exact this.2.2)]
    exact h x hx (by omega)
theorem takes_iff {f st n x : Int} (hs : st ≠ 0) : x ∈ spanL (f, st, n) ↔ 0 < n ∧ (x - f).fmod st = 0 ∧ 0 ≤ (x - f).fdiv st ∧ (x - f).fdiv st < n := by
  rw [spanL_mem]
  show (∃ i : Nat, i < n.toNat ∧ x = f + st * (i : Int)) ↔ _
  constructor
  · rintro ⟨i, hi, e⟩
    have e1 : x - f = st * (i : Int) := by omega
    rw [e1, Int.mul_fmod_right, Int.mul_fdiv_cancel_left _ hs]
    omega
  · rintro ⟨h0, h1, h2, h3⟩
    have h4 := Int.mul_fdiv_add_fmod (x - f) st
    rw [h1, Int.add_zero] at h4
    refine ⟨((x - f).fdiv st).toNat, by omega, ?_⟩
    rw [show ((((x - f).fdiv st).toNat : Nat) : Int) = (x - f).fdiv st by omega, h4]
    omega
theorem risen_nf {s : Spn} (h : Nf s) (hz : s.2.1 ≠ 0) : Nf (risenM s) ∧ 0 < (risenM s).2.1 := by
  unfold risenM
  by_cases z : s.2.1 < 0
  · rw [if_pos z]
    refine ⟨⟨h.n0, fun w => ?_, fun w => ?_⟩, by show 0 < 0 - s.2.1; omega⟩
    · have := h.zero w
      rw [this] at z
      exact absurd (show (1 : Int) < 0 from z) (by decide)
    · have := h.one w
      omega
  · rw [if_neg z]
    exact ⟨h, by omega⟩
theorem common_self {s : Spn} (h : Nf s) (hz : s.2.1 ≠ 0) : Common s s (risenM s) := ⟨(risen_nf h hz).1, (risen_nf h hz).2, fun x => by rw [risen_mem]; exact ⟨fun z => ⟨z, z⟩, fun z => z.1⟩⟩
theorem common_all {s : Spn} {l : Int} (h : SpanIn s l) (hl : 0 ≤ l) : Common s (plainM 0 1 l) (risenM s) := ⟨(risen_nf h.nf h.nz).1, (risen_nf h.nf h.nz).2, fun x => by
  rw [risen_mem, plain_list hl, mem_rgI]
  exact ⟨fun z => ⟨z, h.all x z⟩, fun z => z.1⟩⟩
end Gd

namespace Gd
open PySem PySem.Spec PyProof.Rows L2
/-! ### small chains -/
def smallB (o : Option Int) (k : Int) : Bool := match o with
  | none => true
  | some i => decide (-k ≤ i) && decide (i ≤ k)
def smallC (c : Cut) : Bool := smallB c.1 5 && (smallB c.2.1 5 && smallB c.2.2 2)
structure SmallOk (cs : List Cut) : Prop where
  len : cs.length ≤ 3
  all : ∀ c ∈ cs, smallC c = true ∧ c.2.2 ≠ some 0
theorem smallB_b {o : Option Int} {k : Int} (h : smallB o k = true) {i : Int} (e : o = some i) : -k ≤ i ∧ i ≤ k := by
  subst e
  unfold smallB at h
  rw [Bool.and_eq_true, decide_eq_true_iff, decide_eq_true_iff] at h
  exact h
theorem small_ok {c : Cut} (h : smallC c = true) (hz : c.2.2 ≠ some 0) : CutOk c := by
  unfold smallC at h
  rw [Bool.and_eq_true, Bool.and_eq_true] at h
  exact ⟨fun i e => by have := smallB_b h.1 e; omega, fun i e => by have := smallB_b h.2.1 e; omega, fun i e => by have := smallB_b h.2.2 e; omega, hz⟩
theorem SmallOk.chain {cs : List Cut} (h : SmallOk cs) : ChainOk cs := ⟨by have := h.len; omega, fun c hc => small_ok (h.all c hc).1 (h.all c hc).2⟩
instance (cs : List Cut) : Decidable (SmallOk cs) := decidable_of_iff (cs.length ≤ 3 ∧ ∀ c ∈ cs, smallC c = true ∧ c.2.2 ≠ some 0) ⟨fun h => ⟨h.1, h.2⟩, fun h => ⟨h.len, h.all⟩⟩
/-- the least length below n at which two chains differ -/
def apartM (n : Nat) (a b : List Cut) : Option Int := ((List.range n).find? fun l : Nat => !decide (throughM a l = throughM b l)).map fun l : Nat => (l : Int)
theorem apartM_comm (n : Nat) (a b : List Cut) : apartM n a b = apartM n b a := by
  unfold apartM
  congr 2
  funext l
  congr 1
  exact decide_eq_decide.mpr ⟨fun h => h.symm, fun h => h.symm⟩
theorem find_none {n : Nat} {p : Nat → Bool} (h : ∀ k : Nat, k < n → p k = false) : (List.range n).find? p = none := by
  rw [List.find?_eq_none]
  intro x hx
  rw [h x (List.mem_range.mp hx)]
  decide
theorem find_some {n i : Nat} {p : Nat → Bool} (hi : i < n) (hp : p i = true) (h : ∀ k : Nat, k < i → p k = false) : (List.range n).find? p = some i := by
  rw [List.find?_range_eq_some]
  exact ⟨hp, List.mem_range.mpr hi, fun j hj => by rw [h j hj]; rfl⟩
theorem apart_none {n : Nat} {a b : List Cut} (h : ∀ k : Nat, k < n → throughM a k = throughM b k) : apartM n a b = none := by
  unfold apartM
  rw [find_none fun k hk => by rw [decide_eq_true (h k hk)]; rfl]
  rfl
theorem apart_some {n i : Nat} {a b : List Cut} (hi : i < n) (hp : throughM a i ≠ throughM b i) (h : ∀ k : Nat, k < i → throughM a k = throughM b k) : apartM n a b = some (i : Int) := by
  unfold apartM
  rw [find_some hi (by rw [decide_eq_false hp]; rfl) fun k hk => by rw [decide_eq_true (h k hk)]; rfl]
  rfl
theorem apart_none_iff {n : Nat} {a b : List Cut} (h : apartM n a b = none) : ∀ k : Nat, k < n → throughM a k = throughM b k := fun k hk => by
  unfold apartM at h
  rw [Option.map_eq_none_iff, List.find?_eq_none] at h
  have := h k (List.mem_range.mpr hk)
  simpa using this
theorem kUnl {X : Cx} (K : PySem.W.Frag) {es : List Expr} {k : Nat} {t : TGs} {n : Nat} {pos : Pos} (hc : X.calm = true) (h : PGs X es t) (hK : X.K = K := by rfl) (hn : (assignEach es X.env).length = n := by rfl) (hst : (assignEach es X.env).findIdx? (·.1) = none := by rfl) : PG X (.Tuple es k pos) (gUnl K n t) := by subst hK; exact pg_unl hc h hn hst
theorem gg_unl {xc : Xc} {d : Dl} {m : M} {K : PySem.W.Frag} {gs' : TGs} {n : Nat} {xs : List D} {Q : Dl → M → Prop} (hn : xs.length = n) (h : ggs xc gs' xs d m Q) : gg xc (gUnl K n gs') (.lst xs) d m Q := fun v sg H s e r Q' k => by
  obtain ⟨a, us, rfl, oa, ea, ra⟩ := r.lst_inv
  exact ⟨a, us, rfl, .inl (.inl ea), by rw [← ra.length]; exact hn, h us sg H s e ra Q' k⟩
/-- two chains that are alike -/
def goodB (x y : List Cut) : Bool := decide (SmallOk x) && (decide (SmallOk y) && (apartM 140 x y).isNone)
def Good (d : D) : Prop := ∃ x y : List Cut, d = .tup [chainD x, chainD y] ∧ SmallOk x ∧ SmallOk y ∧ apartM 140 x y = none
theorem Good.of {x y : List Cut} (h : goodB x y = true) : Good (.tup [chainD x, chainD y]) := by
  unfold goodB at h
  rw [Bool.and_eq_true, Bool.and_eq_true, decide_eq_true_iff, decide_eq_true_iff, Option.isNone_iff_eq_none] at h
  exact ⟨x, y, rfl, h.1, h.2.1, h.2.2⟩
end Gd

namespace Gd
open PySem PySem.Spec PyProof.Rows L2
/-! ### small chains go on as they did -/
theorem edge_up {o : Option Int} (h : smallB o 5 = true) (pl : Int → Int) (hp : (∀ n, pl n = 0) ∨ ∀ n, pl n = n) : ∃ β t : Int, (t = 0 ∨ t = 1) ∧ -5 ≤ β ∧ β ≤ 5 ∧ (t = 0 → 0 ≤ β) ∧ (t = 1 → β ≤ 0) ∧ ∀ n : Int, 16 ≤ n → edgeM o n (pl n) 0 n = β + t * n := by
  cases o with
  | none =>
    rcases hp with hp | hp
    · exact ⟨0, 0, .inl rfl, by omega, by omega, by omega, by omega, fun n hn => by show pl n = _; rw [hp]; omega⟩
    · exact ⟨0, 1, .inr rfl, by omega, by omega, by omega, by omega, fun n hn => by show pl n = _; rw [hp]; omega⟩
  | some x =>
    obtain ⟨h1, h2⟩ := smallB_b h rfl
    by_cases z : x < 0
    · refine ⟨x, 1, .inr rfl, by omega, by omega, by omega, by omega, fun n hn => ?_⟩
      rw [edge_mid (k := x + n) (by rw [if_pos z]) (by omega) (by omega)]
      omega
    · refine ⟨x, 0, .inl rfl, by omega, by omega, by omega, by omega, fun n hn => ?_⟩
      rw [edge_mid (k := x) (by rw [if_neg z]) (by omega) (by omega)]
      omega
theorem edge_down {o : Option Int} (h : smallB o 5 = true) (pl : Int → Int) (hp : (∀ n, pl n = -1) ∨ ∀ n, pl n = n - 1) : ∃ β t : Int, (t = 0 ∨ t = 1) ∧ -5 ≤ β ∧ β ≤ 5 ∧ (t = 0 → -1 ≤ β) ∧ (t = 1 → β ≤ -1) ∧ ∀ n : Int, 16 ≤ n → edgeM o n (pl n) (-1) (n - 1) = β + t * n := by
  cases o with
  | none =>
    rcases hp with hp | hp
    · exact ⟨-1, 0, .inl rfl, by omega, by omega, by omega, by omega, fun n hn => by show pl n = _; rw [hp]; omega⟩
    · exact ⟨-1, 1, .inr rfl, by omega, by omega, by omega, by omega, fun n hn => by show pl n = _; rw [hp]; omega⟩
  | some x =>
    obtain ⟨h1, h2⟩ := smallB_b h rfl
    by_cases z : x < 0
    · refine ⟨x, 1, .inr rfl, by omega, by omega, by omega, by omega, fun n hn => ?_⟩
      rw [edge_mid (k := x + n) (by rw [if_pos z]) (by omega) (by omega)]
      omega
    · refine ⟨x, 0, .inl rfl, by omega, by omega, by omega, by omega, fun n hn => ?_⟩
      rw [edge_mid (k := x) (by rw [if_neg z]) (by omega) (by omega)]
      omega
/-- what a small cut takes of a long row, and of one longer by two -/
structure SpR (F : Int → Spn) (d st m N : Int) : Prop where
  m0 : 0 ≤ m
  go : ∀ n : Int, 16 ≤ n → F (n + 2) = ((F n).1 + d, (F n).2.1, (F n).2.2 + m)
  st : ∀ n : Int, 16 ≤ n → (F n).2.1 = st
  n0 : ∀ n : Int, 16 ≤ n → 0 ≤ (F n).2.2
  or : (m = 0 ∧ ∀ n : Int, 16 ≤ n → (F n).2.2 = N) ∨ (1 ≤ m ∧ ∀ n : Int, 16 ≤ n → n - 10 ≤ 2 * (F n).2.2)
theorem plain_zero (f s : Int) {n : Int} (h : n < 1) : plainM f s n = (0, 1, 0) := by unfold plainM; rw [if_pos h]
theorem plain_two (f s : Int) {n : Int} (h : 1 < n) : plainM f s n = (f, s, n) := by unfold plainM; rw [if_neg (by omega), if_pos h]
theorem plain_pos (f s : Int) {n : Int} (h : 1 ≤ n) : plainM f s n = (f, if 1 < n then s else 1, n) := by unfold plainM; rw [if_neg (by omega)]
/-- never any -/
theorem spR_none {F : Int → Spn} {b s k : Int → Int} (hF : ∀ n : Int, 16 ≤ n → F n = plainM (b n) (s n) (k n)) (hk : ∀ n : Int, 16 ≤ n → k n < 1) : ∃ d st m N, SpR F d st m N := by
  have e : ∀ n : Int, 16 ≤ n → F n = (0, 1, 0) := fun n hn => by rw [hF n hn, plain_zero _ _ (hk n hn)]
  refine ⟨0, 1, 0, 0, by omega, fun n hn => ?_, fun n hn => by rw [e n hn], fun n hn => by rw [e n hn]; decide, .inl ⟨rfl, fun n hn => by rw [e n hn]⟩⟩
  rw [e (n + 2) (by omega), e n hn]
  rfl
/-- always as many -/
theorem spR_same {F : Int → Spn} {b : Int → Int} {s k d : Int} (hF : ∀ n : Int, 16 ≤ n → F n = plainM (b n) s k) (hb : ∀ n : Int, b (n + 2) = b n + d) : ∃ d st m N, SpR F d st m N := by
  by_cases hk : k < 1
  · exact spR_none hF fun _ _ => hk
  · have e : ∀ n : Int, 16 ≤ n → F n = (b n, if 1 < k then s else 1, k) := fun n hn => by rw [hF n hn, plain_pos _ _ (by omega)]
    refine ⟨d, if 1 < k then s else 1, 0, k, by omega, fun n hn => ?_, fun n hn => by rw [e n hn], fun n hn => by rw [e n hn]; show 0 ≤ k; omega, .inl ⟨rfl, fun n hn => by rw [e n hn]⟩⟩
    rw [e (n + 2) (by omega), e n hn, hb]
    show (b n + d, _, k) = (b n + d, _, k + 0)
    rw [Int.add_zero]
/-- more and more -/
theorem spR_more {F : Int → Spn} {b k : Int → Int} {s d m : Int} (hF : ∀ n : Int, 16 ≤ n → F n = plainM (b n) s (k n)) (hb : ∀ n : Int, b (n + 2) = b n + d) (hm : 1 ≤ m) (hk : ∀ n : Int, k (n + 2) = k n + m) (hl : ∀ n : Int, 16 ≤ n → n - 10 ≤ 2 * k n) : ∃ d st m N, SpR F d st m N := by
  have e : ∀ n : Int, 16 ≤ n → F n = (b n, s, k n) := fun n hn => by rw [hF n hn, plain_two _ _ (by have := hl n hn; omega)]
  refine ⟨d, s, m, 0, by omega, fun n hn => ?_, fun n hn => by rw [e n hn], fun n hn => by rw [e n hn]; show 0 ≤ k n; have := hl n hn; omega, .inr ⟨hm, fun n hn => by rw [e n hn]; exact hl n hn⟩⟩
  rw [e (n + 2) (by omega), e n hn, hb, hk]
theorem fdiv1 (x : Int) : x.fdiv 1 = x := fdiv_is (q := x) (r := 0) (by decide) (by omega) (by decide) (by decide)
theorem fdiv2 (x : Int) : x.fdiv 2 = x / 2 := Int.fdiv_eq_ediv_of_nonneg x (by decide)
theorem small_span {c : Cut} (h : smallC c = true) (hz : c.2.2 ≠ some 0) : ∃ d st m N, SpR (spanM c) d st m N := by
  obtain ⟨b, e, st⟩ := c
  unfold smallC at h
  rw [Bool.and_eq_true, Bool.and_eq_true] at h
  obtain ⟨hb, he, hs⟩ := h
  have up : ∀ s : Int, (s = 1 ∨ s = 2) → (∀ n : Int, endsM (b, e, st) n = (edgeM b n 0 0 n, edgeM e n n 0 n, s)) → ∃ d st' m N, SpR (spanM (b, e, st)) d st' m N := by
    intro s hs1 hE
    obtain ⟨β, t, ht, b1, b2, b3, b4, hβ⟩ := edge_up hb (fun _ => 0) (.inl fun _ => rfl)
    obtain ⟨ε, u, hu, e1, e2, e3, e4, hε⟩ := edge_up he (fun n => n) (.inr fun _ => rfl)
    have hF : ∀ n : Int, 16 ≤ n → spanM (b, e, st) n = plainM (β + t * n) s ((ε + u * n - (β + t * n) + s - 1).fdiv s) := fun n hn => by
      unfold spanM
      rw [hE n, hβ n hn, hε n hn]
      show (if 0 < s then _ else _) = _
      rw [if_pos (by omega)]
    rcases ht with rfl | rfl <;> rcases hu with rfl | rfl
    · have hF' : ∀ n : Int, 16 ≤ n → spanM (b, e, st) n = plainM ((fun _ => β) n) s ((ε - β + s - 1).fdiv s) := fun n hn => by
        rw [hF n hn]
        congr 2 <;> (try dsimp only) <;> omega
      exact spR_same (d := 0) hF' fun n => by omega
    · rcases hs1 with rfl | rfl
      · have hF' : ∀ n : Int, 16 ≤ n → spanM (b, e, st) n = plainM ((fun _ => β) n) 1 ((fun n => ε + n - β) n) := fun n hn => by
          rw [hF n hn, fdiv1]
          congr 1 <;> (try dsimp only) <;> omega
        exact spR_more (d := 0) (m := 2) hF' (fun n => by omega) (by omega) (fun n => by show ε + (n + 2) - β = ε + n - β + 2; omega) fun n hn => by show n - 10 ≤ 2 * (ε + n - β); omega
      · have hF' : ∀ n : Int, 16 ≤ n → spanM (b, e, st) n = plainM ((fun _ => β) n) 2 ((fun n => (ε + n - β + 1) / 2) n) := fun n hn => by
          rw [hF n hn, fdiv2]
          congr 1 <;> (try dsimp only) <;> omega
        exact spR_more (d := 0) (m := 1) hF' (fun n => by omega) (by omega) (fun n => by show (ε + (n + 2) - β + 1) / 2 = (ε + n - β + 1) / 2 + 1; omega) fun n hn => by show n - 10 ≤ 2 * ((ε + n - β + 1) / 2); omega
    · exact spR_none hF fun n hn => by
        rcases hs1 with rfl | rfl
        · rw [fdiv1]; omega
        · rw [fdiv2]; omega
    · have hF' : ∀ n : Int, 16 ≤ n → spanM (b, e, st) n = plainM ((fun n => β + n) n) s ((ε - β + s - 1).fdiv s) := fun n hn => by
        rw [hF n hn]
        congr 2 <;> (try dsimp only) <;> omega
      exact spR_same (d := 2) hF' fun n => by show β + (n + 2) = β + n + 2; omega
  have down : ∀ s : Int, (s = -1 ∨ s = -2) → (∀ n : Int, endsM (b, e, st) n = (edgeM b n (n - 1) (-1) (n - 1), edgeM e n (-1) (-1) (n - 1), s)) → ∃ d st' m N, SpR (spanM (b, e, st)) d st' m N := by
    intro s hs1 hE
    obtain ⟨β, t, ht, b1, b2, b3, b4, hβ⟩ := edge_down hb (fun n => n - 1) (.inr fun _ => rfl)
    obtain ⟨ε, u, hu, e1, e2, e3, e4, hε⟩ := edge_down he (fun _ => -1) (.inl fun _ => rfl)
    have hF : ∀ n : Int, 16 ≤ n → spanM (b, e, st) n = plainM (β + t * n) s ((β + t * n - (ε + u * n) - s - 1).fdiv (0 - s)) := fun n hn => by
      unfold spanM
      rw [hE n, hβ n hn, hε n hn]
      show (if 0 < s then _ else _) = _
      rw [if_neg (by omega)]
    rcases ht with rfl | rfl <;> rcases hu with rfl | rfl
    · have hF' : ∀ n : Int, 16 ≤ n → spanM (b, e, st) n = plainM ((fun _ => β) n) s ((β - ε - s - 1).fdiv (0 - s)) := fun n hn => by
        rw [hF n hn]
        congr 2 <;> (try dsimp only) <;> omega
      exact spR_same (d := 0) hF' fun n => by omega
    · exact spR_none hF fun n hn => by
        rcases hs1 with rfl | rfl
        · rw [show (0 : Int) - -1 = 1 from rfl, fdiv1]; omega
        · rw [show (0 : Int) - -2 = 2 from rfl, fdiv2]; omega
    · rcases hs1 with rfl | rfl
      · have hF' : ∀ n : Int, 16 ≤ n → spanM (b, e, st) n = plainM ((fun n => β + n) n) (-1) ((fun n => β + n - ε) n) := fun n hn => by
          rw [hF n hn, show (0 : Int) - -1 = 1 from rfl, fdiv1]
          congr 1 <;> (try dsimp only) <;> omega
        exact spR_more (d := 2) (m := 2) hF' (fun n => by show β + (n + 2) = β + n + 2; omega) (by omega) (fun n => by show β + (n + 2) - ε = β + n - ε + 2; omega) fun n hn => by show n - 10 ≤ 2 * (β + n - ε); omega
      · have hF' : ∀ n : Int, 16 ≤ n → spanM (b, e, st) n = plainM ((fun n => β + n) n) (-2) ((fun n => (β + n - ε + 1) / 2) n) := fun n hn => by
          rw [hF n hn, show (0 : Int) - -2 = 2 from rfl, fdiv2]
          congr 1 <;> (try dsimp only) <;> omega
        exact spR_more (d := 2) (m := 1) hF' (fun n => by show β + (n + 2) = β + n + 2; omega) (by omega) (fun n => by show (β + (n + 2) - ε + 1) / 2 = (β + n - ε + 1) / 2 + 1; omega) fun n hn => by show n - 10 ≤ 2 * ((β + n - ε + 1) / 2); omega
    · have hF' : ∀ n : Int, 16 ≤ n → spanM (b, e, st) n = plainM ((fun n => β + n) n) s ((β - ε - s - 1).fdiv (0 - s)) := fun n hn => by
        rw [hF n hn]
        congr 2 <;> (try dsimp only) <;> omega
      exact spR_same (d := 2) hF' fun n => by show β + (n + 2) = β + n + 2; omega
  cases st with
  | none => exact up 1 (.inl rfl) fun n => rfl
  | some s =>
    have hs0 : s ≠ 0 := fun z => hz (by rw [z])
    obtain ⟨s1, s2⟩ := smallB_b hs rfl
    by_cases hp : 0 < s
    · exact up s (by omega) fun n => by simp only [endsM, if_pos hp]
    · exact down s (by omega) fun n => by simp only [endsM, if_neg hp]
/-- by twos, again and again -/
theorem SpR.more {F : Int → Spn} {d st m N : Int} (h : SpR F d st m N) : ∀ (k : Nat) (n : Int), 16 ≤ n → F (n + 2 * (k : Int)) = ((F n).1 + d * (k : Int), (F n).2.1, (F n).2.2 + m * (k : Int))
  | 0, n, _ => by simp
  | k + 1, n, hn => by
    have e : n + 2 * ((k + 1 : Nat) : Int) = (n + 2 * (k : Int)) + 2 := by omega
    rw [e, h.go _ (by omega), SpR.more h k n hn]
    have e1 : d * ((k + 1 : Nat) : Int) = d * (k : Int) + d := by rw [Int.natCast_add, Int.mul_add]; simp
    have e2 : m * ((k + 1 : Nat) : Int) = m * (k : Int) + m := by rw [Int.natCast_add, Int.mul_add]; simp
    rw [e1, e2]
    show ((F n).1 + d * (k : Int) + d, (F n).2.1, (F n).2.2 + m * (k : Int) + m) = _
    rw [Int.add_assoc, Int.add_assoc]
/-- goes on regularly from L on, by P -/
structure Reg (F : Int → Spn) (P L A B D st M N : Int) : Prop where
  p0 : 0 < P
  m0 : 0 ≤ M
  go : ∀ l : Int, L ≤ l → F (l + P) = ((F l).1 + D, (F l).2.1, (F l).2.2 + M)
  st : ∀ l : Int, L ≤ l → (F l).2.1 = st
  n0 : ∀ l : Int, L ≤ l → 0 ≤ (F l).2.2
  or : (M = 0 ∧ ∀ l : Int, L ≤ l → (F l).2.2 = N) ∨ (1 ≤ M ∧ ∀ l : Int, L ≤ l → l - B ≤ A * (F l).2.2)
theorem Reg.twice {F : Int → Spn} {P L A B D st M N : Int} (h : Reg F P L A B D st M N) : Reg F (2 * P) L A B (2 * D) st (2 * M) N := by
  have hp := h.p0
  have hm := h.m0
  refine ⟨by omega, by omega, fun l hl => ?_, h.st, h.n0, ?_⟩
  · rw [show l + 2 * P = (l + P) + P by omega, h.go _ (by omega), h.go l hl]
    show ((F l).1 + D + D, (F l).2.1, (F l).2.2 + M + M) = _
    rw [show (F l).1 + D + D = (F l).1 + 2 * D by omega, show (F l).2.2 + M + M = (F l).2.2 + 2 * M by omega]
  · rcases h.or with ⟨a, b⟩ | ⟨a, b⟩
    · exact .inl ⟨by omega, b⟩
    · exact .inr ⟨by omega, b⟩
theorem Reg.later {F : Int → Spn} {P L A B D st M N L' : Int} (h : Reg F P L A B D st M N) (hl : L ≤ L') : Reg F P L' A B D st M N :=
  ⟨h.p0, h.m0, fun l h1 => h.go l (by omega), fun l h1 => h.st l (by omega), fun l h1 => h.n0 l (by omega), h.or.imp (fun ⟨a, b⟩ => ⟨a, fun l h1 => b l (by omega)⟩) fun ⟨a, b⟩ => ⟨a, fun l h1 => b l (by omega)⟩⟩
theorem plain_n' (f s : Int) {n : Int} (h : 0 ≤ n) : (plainM f s n).2.2 = n := by
  by_cases z : n < 1
  · rw [plain_zero _ _ z]; show (0 : Int) = n; omega
  · rw [plain_pos _ _ (by omega)]
/-- a cut more -/
theorem Reg.step {F : Int → Spn} {P L A B D st M N : Int} (h : Reg F P L A B D st M N) {c : Cut} (hc : smallC c = true) (hz : c.2.2 ≠ some 0) {L' : Int} (hL : L ≤ L') (hA : 0 < A) (hn : 16 * A + B ≤ L') :
    ∃ D' st' M' N', Reg (fun l => stepM (F l) c) (2 * P) L' (2 * A) (B + 10 * A) D' st' M' N' := by
  have hp := h.p0
  obtain ⟨d, s, m, N2, hs⟩ := small_span hc hz
  have hcok := small_ok hc hz
  rcases h.or with ⟨hM, hN⟩ | ⟨hM, hlow⟩
  · -- as many always: the same span of them
    have e : ∀ l : Int, L ≤ l → stepM (F l) c = plainM ((F l).1 + st * (spanM c N).1) (st * (spanM c N).2.1) (spanM c N).2.2 := fun l hl => by
      unfold stepM comp
      rw [hN l hl, h.st l hl]
    by_cases hk : (spanM c N).2.2 < 1
    · have e0 : ∀ l : Int, L ≤ l → stepM (F l) c = (0, 1, 0) := fun l hl => by rw [e l hl, plain_zero _ _ hk]
      refine ⟨0, 1, 0, 0, by omega, by omega, fun l hl => ?_, fun l hl => by rw [e0 l (by omega)], fun l hl => by rw [e0 l (by omega)]; decide, .inl ⟨rfl, fun l hl => by rw [e0 l (by omega)]⟩⟩
      rw [e0 _ (by omega), e0 l (by omega)]
      rfl
    · have e1 : ∀ l : Int, L ≤ l → stepM (F l) c = ((F l).1 + st * (spanM c N).1, if 1 < (spanM c N).2.2 then st * (spanM c N).2.1 else 1, (spanM c N).2.2) := fun l hl => by rw [e l hl, plain_pos _ _ (by omega)]
      refine ⟨2 * D, if 1 < (spanM c N).2.2 then st * (spanM c N).2.1 else 1, 0, (spanM c N).2.2, by omega, by omega, fun l hl => ?_, fun l hl => by rw [e1 l (by omega)], fun l hl => by rw [e1 l (by omega)]; show 0 ≤ (spanM c N).2.2; omega, .inl ⟨rfl, fun l hl => by rw [e1 l (by omega)]⟩⟩
      show stepM (F (l + 2 * P)) c = _
      rw [e1 _ (by omega), e1 l (by omega), h.twice.go l (by omega)]
      show ((F l).1 + 2 * D + st * (spanM c N).1, _, (spanM c N).2.2) = ((F l).1 + st * (spanM c N).1 + 2 * D, _, (spanM c N).2.2 + 0)
      rw [Int.add_zero, Int.add_right_comm]
  · -- more and more
    have big : ∀ l : Int, L' ≤ l → 16 ≤ (F l).2.2 := fun l hl => by
      have h1 := hlow l (by omega)
      by_cases z : 16 ≤ (F l).2.2
      · exact z
      · have : A * (F l).2.2 ≤ A * 15 := Int.mul_le_mul_of_nonneg_left (by omega) (by omega)
        omega
    have two : ∀ l : Int, L' ≤ l → spanM c (F (l + 2 * P)).2.2 = ((spanM c (F l).2.2).1 + d * M, (spanM c (F l).2.2).2.1, (spanM c (F l).2.2).2.2 + m * M) := fun l hl => by
      rw [h.twice.go l (by omega)]
      have := hs.more M.toNat (F l).2.2 (big l hl)
      rw [show ((M.toNat : Nat) : Int) = M by omega] at this
      exact this
    have mm : 0 ≤ m * M := Int.mul_nonneg hs.m0 (by omega)
    have e : ∀ l : Int, L' ≤ l → stepM (F l) c = plainM ((F l).1 + st * (spanM c (F l).2.2).1) (st * s) (spanM c (F l).2.2).2.2 := fun l hl => by
      unfold stepM comp
      rw [h.st l (by omega), hs.st _ (big l hl)]
    have e2 : ∀ l : Int, L' ≤ l → stepM (F (l + 2 * P)) c = plainM ((F l).1 + st * (spanM c (F l).2.2).1 + (2 * D + st * (d * M))) (st * s) ((spanM c (F l).2.2).2.2 + m * M) := fun l hl => by
      rw [e (l + 2 * P) (by omega), two l hl, h.twice.go l (by omega)]
      show plainM ((F l).1 + 2 * D + st * ((spanM c (F l).2.2).1 + d * M)) _ _ = _
      rw [Int.mul_add]
      congr 1
      omega
    rcases hs.or with ⟨hm, hN2⟩ | ⟨hm, hlow2⟩
    · have e3 : ∀ l : Int, L' ≤ l → (spanM c (F l).2.2).2.2 = N2 := fun l hl => hN2 _ (big l hl)
      have m0' : m * M = 0 := by rw [hm, Int.zero_mul]
      by_cases hk : N2 < 1
      · have e0 : ∀ l : Int, L' ≤ l → stepM (F l) c = (0, 1, 0) := fun l hl => by rw [e l hl, e3 l hl, plain_zero _ _ hk]
        refine ⟨0, 1, 0, 0, by omega, by omega, fun l hl => ?_, fun l hl => by rw [e0 l hl], fun l hl => by rw [e0 l hl]; decide, .inl ⟨rfl, fun l hl => by rw [e0 l hl]⟩⟩
        rw [e0 _ (by omega), e0 l hl]
        rfl
      · refine ⟨2 * D + st * (d * M), if 1 < N2 then st * s else 1, 0, N2, by omega, by omega, fun l hl => ?_, fun l hl => by rw [e l hl, e3 l hl, plain_pos _ _ (by omega)], fun l hl => by rw [e l hl, e3 l hl, plain_pos _ _ (by omega)]; show 0 ≤ N2; omega, .inl ⟨rfl, fun l hl => by rw [e l hl, e3 l hl, plain_pos _ _ (by omega)]⟩⟩
        show stepM (F (l + 2 * P)) c = _
        rw [e2 l hl, m0', e l hl, e3 l hl, Int.add_zero, plain_pos _ _ (by omega), plain_pos _ _ (by omega)]
        show _ = (_, _, N2 + 0)
        rw [Int.add_zero]
    · have lo : ∀ l : Int, L' ≤ l → 3 ≤ (spanM c (F l).2.2).2.2 := fun l hl => by have := hlow2 _ (big l hl); have := big l hl; omega
      have mM : 1 ≤ m * M := by
        have := Int.mul_le_mul hm hM (by omega) (by omega)
        omega
      refine ⟨2 * D + st * (d * M), st * s, m * M, 0, by omega, by omega, fun l hl => ?_, fun l hl => by rw [e l hl, plain_two _ _ (by have := lo l hl; omega)], fun l hl => by rw [e l hl, plain_two _ _ (by have := lo l hl; omega)]; show 0 ≤ (spanM c (F l).2.2).2.2; have := lo l hl; omega, .inr ⟨mM, fun l hl => ?_⟩⟩
      · show stepM (F (l + 2 * P)) c = _
        have := lo l hl
        rw [e2 l hl, e l hl, plain_two _ _ (by omega), plain_two _ _ (by omega)]
      · rw [e l hl, plain_two _ _ (by have := lo l hl; omega)]
        show l - (B + 10 * A) ≤ 2 * A * (spanM c (F l).2.2).2.2
        have h1 := hlow l (by omega)
        have h2 := hlow2 _ (big l hl)
        have h3 : A * ((F l).2.2 - 10) ≤ A * (2 * (spanM c (F l).2.2).2.2) := Int.mul_le_mul_of_nonneg_left h2 (by omega)
        have h4 : A * (2 * (spanM c (F l).2.2).2.2) = 2 * A * (spanM c (F l).2.2).2.2 := by rw [Int.mul_left_comm, Int.mul_assoc]
        rw [Int.mul_sub] at h3
        omega
theorem reg_plain : Reg (fun l => plainM 0 1 l) 1 2 1 0 0 1 1 0 := by
  have e : ∀ l : Int, 2 ≤ l → plainM 0 1 l = (0, 1, l) := fun l hl => plain_two _ _ (by omega)
  exact ⟨by omega, by omega, fun l hl => by rw [e _ (by omega), e l hl]; rfl, fun l hl => by rw [e l hl], fun l hl => by rw [e l hl]; show 0 ≤ l; omega, .inr ⟨by omega, fun l hl => by rw [e l hl]; show l - 0 ≤ 1 * l; omega⟩⟩
/-- a small chain goes on by eights from 94 on -/
theorem small_reg {cs : List Cut} (h : SmallOk cs) : ∃ A B D st M N, Reg (throughM cs) 8 94 A B D st M N ∧ 0 < A ∧ 6 * A + B < 139 := by
  have h0 := reg_plain
  match cs, h with
  | [], _ => exact ⟨_, _, _, _, _, _, (h0.twice.twice.twice).later (by omega), by omega, by omega⟩
  | [a], h =>
    obtain ⟨ha, za⟩ := h.all a List.mem_cons_self
    obtain ⟨_, _, _, _, h1⟩ := h0.step ha za (L' := 16) (by omega) (by omega) (by omega)
    exact ⟨_, _, _, _, _, _, (h1.twice.twice).later (by omega), by omega, by omega⟩
  | [a, b], h =>
    obtain ⟨ha, za⟩ := h.all a List.mem_cons_self
    obtain ⟨hb, zb⟩ := h.all b (by simp)
    obtain ⟨_, _, _, _, h1⟩ := h0.step ha za (L' := 16) (by omega) (by omega) (by omega)
    obtain ⟨_, _, _, _, h2⟩ := h1.step hb zb (L' := 42) (by omega) (by omega) (by omega)
    exact ⟨_, _, _, _, _, _, (h2.twice).later (by omega), by omega, by omega⟩
  | [a, b, c], h =>
    obtain ⟨ha, za⟩ := h.all a List.mem_cons_self
    obtain ⟨hb, zb⟩ := h.all b (by simp)
    obtain ⟨hc, zc⟩ := h.all c (by simp)
    obtain ⟨_, _, _, _, h1⟩ := h0.step ha za (L' := 16) (by omega) (by omega) (by omega)
    obtain ⟨_, _, _, _, h2⟩ := h1.step hb zb (L' := 42) (by omega) (by omega) (by omega)
    obtain ⟨_, _, _, _, h3⟩ := h2.step hc zc (L' := 94) (by omega) (by omega) (by omega)
    exact ⟨_, _, _, _, _, _, h3, by omega, by omega⟩
  | _ :: _ :: _ :: _ :: _, h => exact absurd h.len (by simp)
/-- alike from L to L + 2P: alike for ever -/
theorem Reg.alike {F G : Int → Spn} {P L A B D st M N A' B' D' st' M' N' : Int} (f : Reg F P L A B D st M N) (g : Reg G P L A' B' D' st' M' N') (h : ∀ l : Int, L ≤ l → l < L + 2 * P → F l = G l) : ∀ (k : Nat) (l : Int), L ≤ l → l < L + P + (k : Int) → F l = G l
  | 0, l, h1, h2 => h l h1 (by have := f.p0; omega)
  | k + 1, l, h1, h2 => by
    have hp := f.p0
    by_cases z : l < L + P
    · exact h l h1 (by omega)
    · have e0 := h L (by omega) (by omega)
      have e1 := h (L + P) (by omega) (by omega)
      rw [f.go L (by omega), g.go L (by omega), e0] at e1
      have hD : D = D' := by have := congrArg (fun x => x.1) e1; dsimp only at this; omega
      have hM : M = M' := by have := congrArg (fun x => x.2.2) e1; dsimp only at this; omega
      have ih := Reg.alike f g h k (l - P) (by omega) (by omega)
      have e2 := f.go (l - P) (by omega)
      have e3 := g.go (l - P) (by omega)
      rw [show l - P + P = l by omega] at e2 e3
      rw [e2, e3, ih, hD, hM]
/-- chains that are alike below 110 are alike -/
theorem small_alike {a b : List Cut} (ha : SmallOk a) (hb : SmallOk b) (h : ∀ k : Nat, k < 110 → throughM a k = throughM b k) (l : Int) (hl : 0 ≤ l) : throughM a l = throughM b l := by
  obtain ⟨_, _, _, _, _, _, f, _, _⟩ := small_reg ha
  obtain ⟨_, _, _, _, _, _, g, _, _⟩ := small_reg hb
  have hh : ∀ l : Int, 0 ≤ l → l < 110 → throughM a l = throughM b l := fun l h0 h1 => by
    have := h l.toNat (by omega)
    rwa [show ((l.toNat : Nat) : Int) = l by omega] at this
  by_cases z : l < 94
  · exact hh l hl (by omega)
  · exact f.alike g (fun l h0 h1 => hh l (by omega) (by omega)) l.toNat l (by omega) (by omega)
theorem cuts_of {P : Cut → Prop} : ∀ {ys : List D}, (∀ y ∈ ys, ∃ c : Cut, y = cutD c ∧ P c) → ∃ cs : List Cut, ys = cs.map cutD ∧ ∀ c ∈ cs, P c
  | [], _ => ⟨[], rfl, fun _ h => nomatch h⟩
  | y :: ys, h => by
    obtain ⟨z, e, hz⟩ := h y List.mem_cons_self
    obtain ⟨zs, e2, hzs⟩ := cuts_of (ys := ys) fun y hy => h y (List.mem_cons_of_mem _ hy)
    refine ⟨z :: zs, by rw [e, e2]; rfl, fun x hx => ?_⟩
    rcases List.mem_cons.mp hx with e | hx
    · rw [e]; exact hz
    · exact hzs x hx
/-- where chains part is found below 110, if anywhere -/
theorem apart_any {a b : List Cut} (ha : SmallOk a) (hb : SmallOk b) {n n' : Nat} (hn : 110 ≤ n) (hn' : 110 ≤ n') : apartM n a b = apartM n' a b := by
  cases e : apartM n a b with
  | none =>
    have h := apart_none_iff e
    exact (apart_none fun k _ => small_alike ha hb (fun j hj => h j (by omega)) k (by omega)).symm
  | some x =>
    unfold apartM at e
    obtain ⟨i, hi, rfl⟩ := Option.map_eq_some_iff.mp e
    rw [List.find?_range_eq_some] at hi
    obtain ⟨h1, h2, h3⟩ := hi
    have h1 : throughM a i ≠ throughM b i := by simpa using h1
    have h3 : ∀ k : Nat, k < i → throughM a k = throughM b k := fun k hk => by simpa using h3 k hk
    have hlt : i < 110 := by
      by_cases z : i < 110
      · exact z
      · exact absurd (small_alike ha hb (fun j hj => h3 j (by omega)) i (by omega)) h1
    exact (apart_some (by omega) h1 h3).symm
theorem apart_all {a b : List Cut} (ha : SmallOk a) (hb : SmallOk b) (h : apartM 140 a b = none) (l : Int) (hl : 0 ≤ l) : throughM a l = throughM b l := small_alike ha hb (fun k hk => apart_none_iff h k (by omega)) l hl
/-! a cut that takes all -/
def plainB (c : Cut) : Bool := (c.1 == none || c.1 == some 0) && (c.2.1 == none && (c.2.2 == none || c.2.2 == some 1))
theorem plain_span {c : Cut} (h : plainB c = true) {n : Int} (hn : 0 ≤ n) : spanM c n = plainM 0 1 n := by
  obtain ⟨b, e, s⟩ := c
  unfold plainB at h
  simp only [Bool.and_eq_true, Bool.or_eq_true, beq_iff_eq] at h
  obtain ⟨hb, rfl, hs⟩ := h
  have hE : edgeM b n 0 0 n = 0 := by
    rcases hb with rfl | rfl
    · rfl
    · exact edge_mid rfl (by omega) hn
  have he : endsM (b, none, s) n = (0, n, 1) := by
    rcases hs with rfl | rfl
    · show (edgeM b n 0 0 n, n, (1 : Int)) = _
      rw [hE]
    · show (edgeM b n 0 0 n, n, (1 : Int)) = _
      rw [hE]
  unfold spanM
  rw [he]
  show plainM 0 1 ((n - 0 + 1 - 1).fdiv 1) = _
  rw [fdiv1]
  congr 1
  omega
theorem step_plain {c : Cut} (h : plainB c = true) {s : Spn} (hs : Nf s) : stepM s c = s := by
  unfold stepM
  rw [plain_span h hs.n0]
  exact comp_one hs
theorem through_plain {c : Cut} (h : plainB c = true) (xs ys : List Cut) (l : Int) : throughM (xs ++ [c] ++ ys) l = throughM (xs ++ ys) l := by
  have nf : ∀ (xs : List Cut) (s : Spn), Nf s → Nf (xs.foldl stepM s) := by
    intro xs
    induction xs with
    | nil => intro s h; exact h
    | cons x xs ih => intro s _; exact ih _ (plain_nf _ _ _)
  unfold throughM
  rw [List.foldl_append, List.foldl_append, List.foldl_append]
  show ys.foldl stepM (stepM (xs.foldl stepM (plainM 0 1 l)) c) = _
  rw [step_plain h (nf xs _ (plain_nf _ _ _))]
theorem SmallOk.append {xs ys : List Cut} (hx : ∀ c ∈ xs, smallC c = true ∧ c.2.2 ≠ some 0) (hy : ∀ c ∈ ys, smallC c = true ∧ c.2.2 ≠ some 0) (h : xs.length + ys.length ≤ 3) : SmallOk (xs ++ ys) :=
  ⟨by rw [List.length_append]; exact h, fun c hc => (List.mem_append.mp hc).elim (hx c) (hy c)⟩
/-! tuple(x) -/
abbrev rTupleOf (K : PySem.W.Frag) : List V → Hp → VK → Prop := fun xs H Q => ∃ p ys, xs = [.ref p] ∧ ((SqL K H p ys ∧ ∀ l, H l = none → Q (.ref l) (upd H l (.tup ys))) ∨ (SqT K H p ys ∧ Q (.ref p) H))
theorem kTuple {X : Cx} (K : PySem.W.Frag) (h : X.K = K := by rfl) : CallR X (.type "tuple") (rTupleOf K) := by subst h; exact call_tuple_of
section
variable {m : M} {Q : D → M → Prop} {K : PySem.W.Frag} {ds : List D}
theorem gc_tupL (q : Q (.tup ds) m) : gc (rTupleOf K) [.lst ds] m Q := fun H vs s r Q' k => by
  cases r with | cons r1 r2 =>
  cases r2
  obtain ⟨a, us, rfl, oa, ea, ra⟩ := r1.lst_inv
  exact ⟨a, us, rfl, .inl ⟨.inl (.inl ea), fun p np => k _ _ (.tup ds) m (.fresh np) (.tup upd_same (ra.step (.fresh np))) (s.fresh np) q⟩⟩
theorem gc_tupT (q : Q (.tup ds) m) : gc (rTupleOf K) [.tup ds] m Q := fun H vs s r Q' k => by
  cases r with | cons r1 r2 =>
  cases r2
  obtain ⟨a, us, rfl, ea, ra⟩ := r1.tup_inv
  exact ⟨a, us, rfl, .inr ⟨.inl (.inl ea), k _ H (.tup ds) m .refl (.tup ea ra) s q⟩⟩
theorem gc_tupM {a : Addr} {j : Nat} (hm : m[j]? = some (a, .lst ds)) (q : Q (.tup ds) m) : gc (rTupleOf K) [.ref a] m Q := fun H vs s r Q' k => by
  cases r with | cons r1 r2 =>
  cases r2
  obtain ⟨us, ea, ra⟩ := s.get hm
  rw [r1.ref_inv]
  exact ⟨a, us, rfl, .inl ⟨.inl (.inl ea), fun p np => k _ _ (.tup ds) m (.fresh np) (.tup upd_same (ra.step (.fresh np))) (s.fresh np) q⟩⟩
theorem gc_tupH {a : Addr} {m : M} (q : Q (.tup ds) ((a, .lst ds) :: m)) : gc (rTupleOf K) [.ref a] ((a, .lst ds) :: m) Q := gc_tupM (j := 0) rfl q
end
theorem g2_addCC {m : M} {Q : D → M → Prop} {K : PySem.W.Frag} {xs ys : List Cut} (h : xs.length + ys.length ≤ 100000) (q : Q (chainD (xs ++ ys)) m) : g2 (rAddP K) (chainD xs) (chainD ys) m Q := g2_addL (by rw [List.length_map, List.length_map]; exact Nat.le_trans h (by decide)) (by rw [← List.map_append]; exact q)
theorem cut_at {cs : List Cut} {i : Int} {c : Cut} (h0 : 0 ≤ i) (h : cs[i.toNat]? = some c) : atI (cs.map cutD) i = some (cutD c) := by
  rw [atI_map, atI_some h0 h]
  rfl
/-- the least length below n of which a chain takes so many -/
def leastM (n : Nat) (cs : List Cut) (k : Int) : Option Int := ((List.range n).find? fun l : Nat => decide (k ≤ (throughM cs l).2.2)).map fun l : Nat => (l : Int)
theorem least_none {n : Nat} {cs : List Cut} {k : Int} (h : ∀ j : Nat, j < n → ¬ k ≤ (throughM cs j).2.2) : leastM n cs k = none := by
  unfold leastM
  rw [find_none fun j hj => decide_eq_false (h j hj)]
  rfl
theorem least_some {n i : Nat} {cs : List Cut} {k : Int} (hi : i < n) (hp : k ≤ (throughM cs i).2.2) (h : ∀ j : Nat, j < i → ¬ k ≤ (throughM cs j).2.2) : leastM n cs k = some (i : Int) := by
  unfold leastM
  rw [find_some hi (decide_eq_true hp) fun j hj => decide_eq_false (h j hj)]
  rfl
theorem least_cases (n : Nat) (cs : List Cut) (k : Int) : (leastM n cs k = none ∧ ∀ j : Nat, j < n → ¬ k ≤ (throughM cs j).2.2) ∨ ∃ i : Nat, i < n ∧ leastM n cs k = some (i : Int) ∧ k ≤ (throughM cs i).2.2 ∧ ∀ j : Nat, j < i → ¬ k ≤ (throughM cs j).2.2 := by
  cases e : leastM n cs k with
  | none =>
    left
    refine ⟨rfl, fun j hj => ?_⟩
    unfold leastM at e
    rw [Option.map_eq_none_iff, List.find?_eq_none] at e
    simpa using e j (List.mem_range.mpr hj)
  | some x =>
    right
    unfold leastM at e
    obtain ⟨i, hi, rfl⟩ := Option.map_eq_some_iff.mp e
    rw [List.find?_range_eq_some] at hi
    obtain ⟨h1, h2, h3⟩ := hi
    exact ⟨i, List.mem_range.mp h2, rfl, by simpa using h1, fun j hj => by simpa using h3 j hj⟩
/-- never so many below 140: never -/
theorem least_never {cs : List Cut} {k : Int} (h : SmallOk cs) (hk : 1 ≤ k ∧ k ≤ 6) (hn : ∀ j : Nat, j < 140 → ¬ k ≤ (throughM cs j).2.2) (l : Int) (hl : 0 ≤ l) : ¬ k ≤ (throughM cs l).2.2 := by
  obtain ⟨A, B, D, st, M, N, f, hA, hB⟩ := small_reg h
  rcases f.or with ⟨_, b⟩ | ⟨_, b⟩
  · by_cases z : l < 140
    · have := hn l.toNat (by omega)
      rwa [show ((l.toNat : Nat) : Int) = l by omega] at this
    · rw [b l (by omega), ← b 100 (by omega)]
      exact hn 100 (by omega)
  · exfalso
    have h1 := b 139 (by omega)
    have h2 := hn 139 (by omega)
    have h3 : (throughM cs ((139 : Nat) : Int)).2.2 ≤ 5 := by omega
    have h4 : A * (throughM cs 139).2.2 ≤ A * 6 := Int.mul_le_mul_of_nonneg_left (by have : (throughM cs 139).2.2 ≤ 5 := h3; omega) (by omega)
    omega
theorem least_nil {k : Int} (hk : 1 ≤ k ∧ k ≤ 6) : leastM 140 [] k = some k := by
  have e : ∀ j : Nat, (throughM [] (j : Int)).2.2 = j := fun j => plain_n (by omega)
  have := least_some (n := 140) (i := k.toNat) (cs := []) (k := k) (by omega) (by rw [e]; omega) fun j hj => by rw [e]; omega
  rwa [show ((k.toNat : Nat) : Int) = k by omega] at this
end Gd

namespace Gd
open PySem PySem.Spec PyProof.Rows L2
/-! ### objects of the program's classes -/
abbrev FP (ok : Addr → Prop) (H : Hp) : Str × D → Str × V → Prop := fun p q => p.1 = q.1 ∧ Rep ok H p.2 q.2
def putD (f : Str) (y : D) : List (Str × D) → List (Str × D)
  | [] => [(f, y)]
  | (g, x) :: r => if g = f then (g, y) :: r else (g, x) :: putD f y r
section
variable {ok : Addr → Prop} {H : Hp}
theorem paired_put {f : Str} {y : D} {v : V} (r : Rep ok H y v) : ∀ {fs : List (Str × D)} {fs' : List (Str × V)}, Paired (FP ok H) fs fs' → Paired (FP ok H) (putD f y fs) (putF f v fs')
  | _, _, .nil => .cons ⟨rfl, r⟩ .nil
  | (g, x) :: fs, (g', x') :: fs', .cons ⟨e, h⟩ t => by
    have e : g = g' := e
    subst e
    unfold putD putF
    by_cases z : g = f
    · rw [if_pos z, if_pos z]
      exact .cons ⟨rfl, r⟩ t
    · rw [if_neg z, if_neg z]
      exact .cons ⟨rfl, h⟩ (paired_put r t)
theorem paired_look {f : Str} {z : D} : ∀ {fs : List (Str × D)} {fs' : List (Str × V)}, Paired (FP ok H) fs fs' → fs.lookup f = some z → ∃ v, fs'.lookup f = some v ∧ Rep ok H z v
  | _, _, .nil, h => by cases h
  | (g, x) :: fs, (g', x') :: fs', .cons ⟨e, h⟩ t, hl => by
    have e : g = g' := e
    subst e
    rw [List.lookup_cons] at hl ⊢
    cases hb : f == g with
    | true =>
      rw [hb] at hl
      have hl : some x = some z := hl
      cases hl
      exact ⟨x', rfl, h⟩
    | false =>
      rw [hb] at hl
      exact paired_look t hl
theorem paired_none {f : Str} : ∀ {fs : List (Str × D)} {fs' : List (Str × V)}, Paired (FP ok H) fs fs' → fs.lookup f = none → fs'.lookup f = none
  | _, _, .nil, h => rfl
  | (g, x) :: fs, (g', x') :: fs', .cons ⟨e, h⟩ t, hl => by
    have e : g = g' := e
    subst e
    rw [List.lookup_cons] at hl ⊢
    cases hb : f == g with
    | true => rw [hb] at hl; cases hl
    | false =>
      rw [hb] at hl
      exact paired_none t hl
theorem paired_zip : ∀ {ns : List Str} {ds : List D} {xs : List V}, ns.length = ds.length → Reps ok H ds xs → Paired (FP ok H) (ns.zip ds) (ns.zip xs)
  | [], _, _, _, _ => by simp only [List.zip_nil_left]; exact .nil
  | n :: ns, [], _, h, _ => by simp at h
  | n :: ns, d :: ds, x :: xs, h, .cons r t => .cons ⟨rfl, r⟩ (paired_zip (by simpa using h) t)
theorem paired_split : ∀ {fs : List (Str × D)} {fs' : List (Str × V)}, Paired (FP ok H) fs fs' → fs' = (fs.map (·.1)).zip (fs'.map (·.2)) ∧ Reps ok H (fs.map (·.2)) (fs'.map (·.2))
  | _, _, .nil => ⟨rfl, .nil⟩
  | (g, x) :: fs, (g', x') :: fs', .cons ⟨e, h⟩ t => by
    have e : g = g' := e
    subst e
    obtain ⟨a, b⟩ := paired_split t
    refine ⟨?_, .cons h b⟩
    show (g, x') :: fs' = (g, x') :: (fs.map (·.1)).zip (fs'.map (·.2))
    rw [← a]
end
def FldAt (C : Addr) (m : M) (x : D) (f : Str) (z : D) : Prop := (∃ ns ds, x = .obj C ns ds ∧ (ns.zip ds).lookup f = some z) ∨ ∃ (a : Addr) (j : Nat) (fs : List (Str × D)), x = .ref a ∧ m[j]? = some (a, MO.ins C fs) ∧ fs.lookup f = some z
def ObjAt (C : Addr) (m : M) (x : D) (f : Str) : Prop := (∃ ns ds, x = .obj C ns ds ∧ (ns.zip ds).lookup f = none) ∨ ∃ (a : Addr) (j : Nat) (fs : List (Str × D)), x = .ref a ∧ m[j]? = some (a, MO.ins C fs) ∧ fs.lookup f = none
theorem Rep.freezeI {m : M} {H : Hp} {a C : Addr} {fs : List (Str × D)} (s : MSat ((a, .ins C fs) :: m) H) : Rep (off m) H (.obj C (fs.map (·.1)) (fs.map (·.2))) (.ref a) := by
  obtain ⟨dx, fs', e, r⟩ := s.all _ List.mem_cons_self
  obtain ⟨e1, r1⟩ := paired_split r
  rw [e1] at e
  exact .obj (List.nodup_cons.mp s.nd).1 e (by simp) (r1.mono ⟨fun _ _ h => h, fun _ _ _ h => h⟩ fun b ys n h => ⟨fun z => n (List.mem_cons_of_mem _ z), h⟩)
section
variable {xc : Xc} {d : Dl} {m : M} {Q : D → M → Prop} {E : De} {ta tb te : TE} {ts : TS} {aa : TA} {K : PySem.W.Frag} {C : Addr} {f : Str}
theorem ge_fld (c : Cls K C) (n : NoAttr K C f) (h : ge xc ta d m fun x m1 => ∃ z, FldAt C m1 x f z ∧ Q z m1) : ge xc (tFld K ta f) d m Q := fun sg H s e Q' k =>
  h sg H s e _ fun v H1 x m1 s1 r1 t1 ⟨z, ho, q⟩ => by
    rcases ho with ⟨ns, ds, rfl, hl⟩ | ⟨a, j, fs, rfl, hm, hl⟩
    · obtain ⟨a, dx, xs, rfl, oa, ea, l, ra⟩ := r1.obj_inv
      obtain ⟨u, hu, ru⟩ := paired_look (paired_zip l ra) hl
      exact ⟨a, C, dx, _, u, rfl, ea, c, n, hu, k u H1 z m1 s1 ru t1 q⟩
    · obtain ⟨dx, fs', ea, ra⟩ := t1.get hm
      obtain ⟨u, hu, ru⟩ := paired_look ra hl
      exact ⟨a, C, dx, fs', u, r1.ref_inv, ea, c, n, hu, k u H1 z m1 s1 ru t1 q⟩
theorem fld_obj {m : M} {ns : List Str} {ds : List D} {z : D} {Q : D → Prop} (h : (ns.zip ds).lookup f = some z) (q : Q z) : ∃ z, FldAt C m (.obj C ns ds) f z ∧ Q z := ⟨z, .inl ⟨ns, ds, rfl, h⟩, q⟩
theorem fld_head {m : M} {a : Addr} {fs : List (Str × D)} {z : D} {Q : D → Prop} (h : fs.lookup f = some z) (q : Q z) : ∃ z, FldAt C ((a, MO.ins C fs) :: m) (.ref a) f z ∧ Q z := ⟨z, .inr ⟨a, 0, fs, rfl, rfl, h⟩, q⟩
theorem fld_cell {m : M} {a : Addr} {fs : List (Str × D)} {z : D} {Q : D → Prop} (j : Nat) (hm : m[j]? = some (a, MO.ins C fs)) (h : fs.lookup f = some z) (q : Q z) : ∃ z, FldAt C m (.ref a) f z ∧ Q z := ⟨z, .inr ⟨a, j, fs, rfl, hm, h⟩, q⟩
theorem gs_fld (c : Cls K C) (n : NoAttr K C f) (h : ge xc tb d m fun y m1 => ge xc ta d m1 fun x m2 => ∃ (a : Addr) (j : Nat) (fs : List (Str × D)), x = .ref a ∧ m2[j]? = some (a, MO.ins C fs) ∧ fs.length < 900 ∧ E.nx d (m2.set j (a, .ins C (putD f y fs)))) : gs xc (sFld K ta tb f) E d m := fun sg H s e E' okk =>
  h sg H s e _ fun vy H1 y m1 s1 r1 t1 h1 => h1 sg H1 t1 (e.step s1) _ fun vx H2 x m2 s2 r2 t2 ⟨a, j, fs, hx, hm, hl, q⟩ => by
    subst hx
    obtain ⟨dx, fs', ea, ra⟩ := t2.get hm
    have hlen : fs'.length < 1000 := by rw [← ra.length]; omega
    refine ⟨a, C, dx, fs', r2.ref_inv, ea, c, n, hlen, ?_⟩
    have st : Step m2 H2 (m2.set j (a, .ins C (putD f y fs))) (upd H2 a (.ins C dx (putF f vy fs'))) := Step.write t2 hm
    refine okk.nx sg _ d _ ((s1.trans s2).trans st) (t2.write hm ⟨dx, _, upd_same, ?_⟩) (((e.step s1).step s2).step st) q
    exact paired_mono st.tups st.h2 (paired_put (r1.step s2) ra)
theorem gs_fldH (c : Cls K C) (n : NoAttr K C f) (h : ge xc tb d m fun y m1 => ge xc ta d m1 fun x m2 => ∃ (a : Addr) (fs : List (Str × D)) (m3 : M), x = .ref a ∧ m2 = (a, MO.ins C fs) :: m3 ∧ fs.length < 900 ∧ E.nx d ((a, .ins C (putD f y fs)) :: m3)) : gs xc (sFld K ta tb f) E d m :=
  gs_fld c n (h.mono fun y m1 h1 => h1.mono fun x m2 ⟨a, fs, m3, e1, e2, e3, q⟩ => ⟨a, 0, fs, e1, by rw [e2]; rfl, e3, by rw [e2]; exact q⟩)
/-- C(..) -/
theorem ge_make {T : TD} {dvs : List V} {dds : List D} (hd : ∀ ok H, Reps ok H dds dvs) (h : ga xc aa d m fun xs m1 => ∀ x, x ∉ dom m1 → T (.ref x :: (xs ++ dds)) ((x, .ins C []) :: m1) (fun v m2 => v = .non ∧ Q (.ref x) m2) xc.X0) : ge xc (tMake C (spOf T) dvs xc.Ex aa) d m Q := fun sg H s e Q' k =>
  h sg H s e _ fun vs H1 xs m1 s1 r1 t1 q => by
    intro x dx nx ndx hne
    have f1 : Step m1 H1 m1 (upd H1 dx (.own x)) := .fresh ndx
    have nx1 : (upd H1 dx (.own x)) x = none := by rw [upd_ne (Ne.symm hne)]; exact nx
    have t2 := t1.fresh (o := .own x) ndx
    have f2 : Step m1 (upd H1 dx (.own x)) ((x, .ins C []) :: m1) (upd (upd H1 dx (.own x)) x (.ins C dx [])) := .cell nx1
    have f12 := f1.trans f2
    have t3 : MSat ((x, .ins C []) :: m1) (upd (upd H1 dx (.own x)) x (.ins C dx [])) := by
      refine ⟨List.nodup_cons.mpr ⟨t1.off_new nx, t1.nd⟩, fun p hp => ?_⟩
      rcases List.mem_cons.mp hp with e | h
      · subst e
        exact ⟨dx, [], upd_same, .nil⟩
      · obtain ⟨u, eu⟩ := (t2.all p h).there
        exact (t2.all p h).mono f2.tups f2.h2 (upd_ne (ne_of_none eu nx1))
    refine ⟨.ref x :: (xs ++ dds), _, _, xc.X0, .cons (.ref x) ((r1.step f12).append (hd _ _)), t3, q x (t1.off_new nx), fun v H' z m' s2 r2 t4 ⟨hz, q2⟩ => ⟨?_, ?_⟩, (e.xk.step s1).step f12⟩
    · subst hz
      exact r2.non_inv
    · exact k (.ref x) H' (.ref x) m' ((s1.trans f12).trans s2) (.ref x) t4 q2
/-- o.m(..) -/
theorem ge_meth {T : TD} {dvs : List V} {dds : List D} {mn : Str} (hd : ∀ ok H, Reps ok H dds dvs) (h : ge xc ta d m fun x m1 => ObjAt C m1 x mn ∧ ga xc aa d m1 fun xs m2 => T (x :: (xs ++ dds)) m2 Q xc.X0) : ge xc (tMeth C mn (spOf T) dvs xc.Ex ta aa) d m Q := fun sg H s e Q' k =>
  h sg H s e _ fun v H1 x m1 s1 r1 t1 ⟨ho, q⟩ => by
    have go : sg = sg := rfl
    have fin : aa sg H1 fun vs H2 => (spOf T) (v :: (vs ++ dvs)) H2 Q' xc.Ex := q sg H1 t1 (e.step s1) _ fun vs H2 xs m2 s2 r2 t2 q2 =>
      ⟨x :: (xs ++ dds), m2, Q, xc.X0, .cons (r1.step s2) (r2.append (hd _ _)), t2, q2, fun w H' z m' s3 r3 t3 q3 => k w H' z m' ((s1.trans s2).trans s3) r3 t3 q3, (e.xk.step s1).step s2⟩
    rcases ho with ⟨ns, ds, rfl, hl⟩ | ⟨a, j, fs, rfl, hm, hl⟩
    · obtain ⟨a, dx, xs, rfl, oa, ea, l, ra⟩ := r1.obj_inv
      exact ⟨a, dx, _, rfl, ea, paired_none (paired_zip l ra) hl, fin⟩
    · obtain ⟨dx, fs', ea, ra⟩ := t1.get hm
      have er := r1.ref_inv
      subst er
      exact ⟨a, dx, fs', rfl, ea, paired_none ra hl, fin⟩
theorem obj_obj {m : M} {ns : List Str} {ds : List D} {B : Prop} (h : (ns.zip ds).lookup f = none) (b : B) : ObjAt C m (.obj C ns ds) f ∧ B := ⟨.inl ⟨ns, ds, rfl, h⟩, b⟩
theorem obj_head {m : M} {a : Addr} {fs : List (Str × D)} {B : Prop} (h : fs.lookup f = none) (b : B) : ObjAt C ((a, MO.ins C fs) :: m) (.ref a) f ∧ B := ⟨.inr ⟨a, 0, fs, rfl, rfl, h⟩, b⟩
theorem ge_make0 {T : TD} (h : ga xc aa d m fun xs m1 => ∀ x, x ∉ dom m1 → T (.ref x :: xs) ((x, .ins C []) :: m1) (fun v m2 => v = .non ∧ Q (.ref x) m2) xc.X0) : ge xc (tMake C (spOf T) [] xc.Ex aa) d m Q :=
  ge_make (dds := []) (fun _ _ => .nil) (by
    have e : ∀ xs : List D, xs ++ [] = xs := List.append_nil
    simpa only [e] using h)
theorem ge_meth0 {T : TD} {mn : Str} (h : ge xc ta d m fun x m1 => ObjAt C m1 x mn ∧ ga xc aa d m1 fun xs m2 => T (x :: xs) m2 Q xc.X0) : ge xc (tMeth C mn (spOf T) [] xc.Ex ta aa) d m Q :=
  ge_meth (dds := []) (fun _ _ => .nil) (by
    have e : ∀ xs : List D, xs ++ [] = xs := List.append_nil
    simpa only [e] using h)
/-- a cell's object becomes data: the value of an expression -/
theorem ge_frzI (h : ge xc te d m fun x m1 => ∃ (p : Addr) (C : Addr) (fs : List (Str × D)) (m2 : M), x = .ref p ∧ m1 = (p, MO.ins C fs) :: m2 ∧ Q (.obj C (fs.map (·.1)) (fs.map (·.2))) m2) : ge xc te d m Q := fun sg H s e Q' k =>
  h sg H s e Q' fun v H' x m1 s1 r1 t1 ⟨p, C, fs, m2, e1, e2, q⟩ => by
    subst e1 e2
    rw [r1.ref_inv]
    exact k _ H' _ m2 (s1.trans .drop1) (.freezeI t1) t1.drop1 q
theorem gs_retI (h : ge xc te d m fun x m1 => ∃ (p : Addr) (C : Addr) (fs : List (Str × D)) (m2 : M), x = .ref p ∧ m1 = (p, MO.ins C fs) :: m2 ∧ E.rt (.obj C (fs.map (·.1)) (fs.map (·.2))) m2) : gs xc (tRet te) E d m := gs_ret (ge_frzI h)
end
/-! ### rules with the written part as a letter -/
section
variable {X : Cx} (K : PySem.W.Frag)
theorem kFld {e : Expr} {f : Str} {pos : Pos} {ta : TE} (he : PE X e ta) (hb : attributeBase e f X.env (eval e X.env) = eval e X.env) (h : X.K = K := by rfl) : PE X (.Attribute e f pos) (tFld K ta f) := by subst h; exact pe_fld he hb
theorem kSFld {o value : Expr} {f : Str} {pos pos' : Pos} {ta tv : TE} (ha : PE X o ta) (hv : PE X value tv) (hs : swapsWith value (some (.Attribute o f pos')) pos.line X.env = pure false) (h : X.K = K := by rfl) : PS X (.Assign [.Attribute o f pos'] value pos) (sFld K ta tv f) := by subst h; exact ps_fld ha hv hs
end
/-! ### a def that runs below a built-in -/
theorem run_sub {X : Cx} {CX : CXT} {k : Nat} {f : Addr} {fd : FuncData} {ps : List Str} {sp : Sp} {E : XK} {A : Around} {pins : List (Addr × Obj)} {σ : L2.St} {H : Hp} {s : Shared} {Q : VK} {us : List Value} {vs : List V}
    (F : FnOk X.prog X.w X.K X.mg X.base CX k f fd ps sp) (sb : L2.Sub X k A) (hb : Binds X.K fd ps []) (hx : Passes CX X E) (I : Inv X pins σ H s) (r : Vals vs us) (h : sp vs H Q E) : wpAny (model X.prog X.w) A (call (.ref f) us) (EP X pins σ Q) X.xe s := by
  have e0 : Env0 X.prog X.w X.K X.mg X.base A X.stack s H := by
    have e := I.env0
    exact ⟨by rw [sb.fr]; exact e.frames, e.mod, e.bs, e.bsz, e.funs, e.frf, e.hok, e.bare⟩
  have hl : us.length = ps.length := by rw [← r.length]; exact F.len _ _ _ _ h
  have b := hb s us I.kIn (by rw [List.append_nil]; exact hl)
  rw [List.append_nil] at b
  refine wpAny_call (codeAny_mono (F.run A X.stack s H ⟨us, []⟩ us vs Q E sb.room e0 b r h) fun r s' hq => ?_)
  cases r with
  | error e => exact hx pins σ H s e s' I hq
  | ok fl =>
    cases fl with
    | ret u => exact I.after hq
    | next => exact False.elim hq
    | brk => exact False.elim hq
    | cont => exact False.elim hq
structure LenM (K : PySem.W.Frag) (C f : Addr) : Prop where
  at_ : PySem.W.findIn K (.ref C) "__len__" = some (some (.ref f))
  fn : PySem.W.isFn K (.ref f) = true
def rLenO (C : Addr) (sp : Sp) : List V → Hp → VK → Prop := fun xs H Q => ∃ a dx fs, xs = [.ref a] ∧ H a = some (.ins C dx fs) ∧ sp [.ref a] H (fun v H' => ∃ n : Int, v = .int n ∧ (0 ≤ n ∧ n < 2 ^ 63) ∧ Q (.int n) H') E0
theorem call_lenO {X : Cx} {k : Nat} {C f : Addr} {fd : FuncData} {ps : List Str} {sp : Sp} (L : LenM X.K C f) (F : FnOk X.prog X.w X.K X.mg X.base CX0 k f fd ps sp) (hr : Room (k + 1) X.A) (hb : Binds X.K fd ps []) : CallR X (.builtin "len") (rLenO C sp) := by
  intro pins s σ H xs us Q I r h
  obtain ⟨a, dx, fs, rfl, ea, hsp⟩ := h
  obtain ⟨u, rfl, rx⟩ := vals1 r
  cases rx
  obtain ⟨mA, J, _⟩ := ins_get I.hok ea
  obtain ⟨od, J, _⟩ := J.look
  obtain ⟨m, hF⟩ := I.fr
  refine PySem.W.len_K hF I.ok.mod.kin J L.at_ L.fn ?_
  have r2 : Vals [V.ref a] [Value.ref a] := .cons rfl .nil
  refine wpAny_mono (run_sub F (L2.Sub.in1 ⟨hr, rfl⟩) hb pass0 I r2 hsp) (fun w s' hq => ?_) fun _ _ x => x
  obtain ⟨v, H', I', rv, n, e, hn, q⟩ := hq
  subst e
  obtain ⟨t, rfl⟩ := rv
  exact ⟨hn, .int n, H', I'.tok _, ⟨_, rfl⟩, q⟩
theorem kLenO {X : Cx} (K : PySem.W.Frag) {k : Nat} {C f : Addr} {fd : FuncData} {ps : List Str} {sp : Sp} (L : LenM K C f) (F : FnOk X.prog X.w K X.mg X.base CX0 k f fd ps sp) (hr : Room (k + 1) X.A) (hb : Binds K fd ps []) (h : X.K = K := by rfl) : CallR X (.builtin "len") (rLenO C sp) := by subst h; exact call_lenO L F hr hb
theorem gc_lenO {m : M} {Q : D → M → Prop} {C : Addr} {T : TD} {ns : List Str} {ds : List D} {X0 : XD} (h : T [.obj C ns ds] m (fun v m' => ∃ n : Int, v = .int n ∧ (0 ≤ n ∧ n < 2 ^ 63) ∧ Q (.int n) m') (fun _ _ _ => False)) : gc (rLenO C (spOf T)) [.obj C ns ds] m Q := fun H vs s r Q' k => by
  cases r with | cons r1 r2 =>
  cases r2
  obtain ⟨a, dx, xs, rfl, oa, ea, l, ra⟩ := id r1.obj_inv
  refine ⟨a, dx, _, rfl, ea, [.obj C ns ds], m, _, fun _ _ _ => False, .cons r1 .nil, s, h, fun v H' z m' s2 r2 t2 ⟨n, e, hn, q⟩ => ?_, fun _ _ _ _ _ _ _ _ z => z.elim⟩
  subst e
  exact ⟨n, r2.int_inv, hn, k _ H' (.int n) m' s2 (.int n) t2 q⟩
theorem kLenSetI {X : Cx} (K : PySem.W.Frag) {a : Expr} {ta : TE} {p p2 q pos : Pos} (hg : Gl X "len") (hm : X.mg "len" = none) (hg2 : Gl X "set") (hm2 : X.mg "set" = none) (ha : PE X a ta) (hc : X.calm = true := by rfl) (h : X.K = K := by rfl)
    (na : starEach [a] X.env = (false, eval a X.env) :: starEach [] X.env := by rfl) : PE X (.Call (.Name "len" p) [.Call (.Name "set" p2) [a] [] q] [] pos) (RZ.tLenSetI K ta) := by subst h; exact RZ.pe_lenSetI hg hm hg2 hm2 ha hc na
theorem ge_lenSetI {xc : Xc} {d : Dl} {m : M} {Q : D → M → Prop} {ta : TE} {K : PySem.W.Frag} (h : ge xc ta d m fun x m1 => ∃ ns : List Int, x = intsD ns ∧ ns.Nodup ∧ ns.length ≤ 4000 ∧ Q (.int ns.length) m1) : ge xc (RZ.tLenSetI K ta) d m Q := fun sg H s e Q' k =>
  h sg H s e _ fun v H1 x m1 s1 r1 t1 ⟨ns, hx, h1, h2, q⟩ => by
    subst hx
    obtain ⟨a, us, rfl, oa, ea, ra⟩ := r1.lst_inv
    have e := Reps.ints_inv ra
    subst e
    exact ⟨a, ns, rfl, .inl (.inl ea), h1, h2, k _ H1 _ m1 s1 (.int _) t1 q⟩
/-! ### runs -/
abbrev sMade : Str := "made"
abbrev sSome : Str := "some"
abbrev runN : List Str := [sMade, sSome]
/-- a run as it is made: begin, end, step, its numbers -/
abbrev runX (C : Addr) (b e s : Int) (ns : List Int) : D := .obj C runN [.tup [.int b, .int e, .int s], intsD ns]
def endM (s : Spn) : Int := if s.2.2 = 0 then 0 else s.1 + s.2.1 * (s.2.2 - 1) + (if 0 < s.2.1 then 1 else -1)
abbrev runD (C : Addr) (s : Spn) : D := runX C s.1 (endM s) s.2.1 (spanL s)
theorem run_ne : ¬ (sMade = sSome) := by decide +kernel
theorem put_run (x y : D) : putD sSome y (putD sMade x []) = [(sMade, x), (sSome, y)] := by
  show (if sMade = sSome then _ else (sMade, x) :: putD sSome y []) = _
  rw [if_neg run_ne]
  rfl
theorem put_made (x y z : D) : putD sMade z [(sMade, x), (sSome, y)] = [(sMade, z), (sSome, y)] := by
  show (if sMade = sMade then _ else _) = _
  rw [if_pos rfl]
theorem put_some (x y z : D) : putD sSome z [(sMade, x), (sSome, y)] = [(sMade, x), (sSome, z)] := by
  show (if sMade = sSome then _ else (sMade, x) :: (if sSome = sSome then [(sSome, z)] else _)) = _
  rw [if_neg run_ne, if_pos rfl]
theorem look_made (x y : D) : (runN.zip [x, y]).lookup sMade = some x := by
  show (match sMade == sMade with | true => some x | false => (match sMade == sSome with | true => some y | false => none)) = some x
  rw [show (sMade == sMade) = true from by decide +kernel]
theorem look_some (x y : D) : (runN.zip [x, y]).lookup sSome = some y := by
  show (match sSome == sMade with | true => some x | false => (match sSome == sSome with | true => some y | false => none)) = some y
  rw [show (sSome == sMade) = false from by decide +kernel, show (sSome == sSome) = true from by decide +kernel]
def cntM (b e s : Int) : Int := if 0 < s then mx 0 ((e - b + s - 1).fdiv s) else mx 0 ((b - e - s - 1).fdiv (0 - s))
theorem look_no {f : Str} (x y : D) (h1 : (f == sMade) = false) (h2 : (f == sSome) = false) : (runN.zip [x, y]).lookup f = none := by
  show (match f == sMade with | true => some x | false => (match f == sSome with | true => some y | false => none)) = none
  rw [h1, h2]
theorem plain_id {l : Int} (h : 0 ≤ l) : plainM 0 1 l = (0, 1, l) := by
  unfold plainM
  by_cases z : l < 1
  · rw [if_pos z, show l = 0 by omega]
  · rw [if_neg z]
    split <;> rfl
theorem items_all (row : List Int) : (spanL (plainM 0 1 row.length)).map (fun i => row.getD i.toNat 0) = row := by
  have := taken_all row
  unfold takenM at this
  rwa [plain_all (by omega)] at this
/-- what a cut takes of what a span took -/
theorem items_step {row : List Int} {S : Spn} {c : Cut} (hn : 0 ≤ S.2.2) (hc : CutOk c) : takenM ((spanL S).map fun i => row.getD i.toNat 0) c = (spanL (stepM S c)).map fun i => row.getD i.toNat 0 := by
  unfold takenM
  have hl : (((spanL S).map fun i => row.getD i.toNat 0).length : Int) = S.2.2 := by rw [List.length_map, spanL_len]; omega
  rw [hl, step_list hn hc, List.map_map]
  apply List.map_congr_left
  intro i hi
  obtain ⟨a, b⟩ := (span_in hc hn).all i hi
  show ((spanL S).map fun i => row.getD i.toNat 0).getD i.toNat 0 = row.getD ((spanL S).getD i.toNat 0).toNat 0
  rw [List.getD_eq_getElem?_getD, List.getElem?_map, List.getD_eq_getElem?_getD (l := spanL S), spanL_get (by omega)]
  rfl
end Gd

namespace PySem.W
open PySem PySem.Spec PySem.Calls PyProof.Rows
section
variable {prog : Program} {w : World} {A : Around} {E : Value → Shared → Prop} {s : Shared} {K : Frag} {x y C L f : Addr} {h₀ : Heap} {m : Str → Option Value} {ox oy : Obj} {od od' : Option Obj}
theorem gd_ifBound_ne {M : Model} {args : List Value} {Q : Option Value → Shared → Prop} (X : K.In s.heap) (I : InstAt s.heap x ox C od) (hs : findIn K (.ref C) "__ne__" = some (some (.builtin "object.__ne__")))
    (h : wpAny M A (call (.builtin "object.__ne__") (.ref x :: args)) (fun v => Q (some v)) E s) : wpAny M A (callSpecialIfBound? (.ref x) "__ne__" args) Q E s := by
  simp only [callSpecialIfBound?, bindSpecialIfBound?]
  refine wpAny_holding (wpAny_bind (wpAny_bind (wpAny_bind (I.type.here ((looks_findIn X hs).here ?_)))))
  refine wpAny_bind (wpAny_askSetting (wpAny_ite ?_))
  have fin : wpAny M A (call (.builtin "object.__ne__") ([.ref x] ++ args) >>= fun v => pure (some v)) Q E s := wpAny_bind (wpAny_mono h (fun v s' h' => wpAny_pure h') fun _ _ h' => h')
  simp only [PySem.F.cmp_object.ne.bind]
  split
  · exact wpAny_bind (wpAny_pure (wpAny_pure (by exact fin)))
  · exact wpAny_tryCatch (wpAny_bind (wpAny_pure (wpAny_pure (by exact fin))))
theorem gd_ne_K {Q : Value → Shared → Prop} (hu : A.units + 1 < cLine) (F : Fr h₀ L s.heap m) (X₀ : K.In h₀) (I : InstAt s.heap x ox C od) (J : InstAt s.heap y oy C od') (hs : findIn K (.ref C) "__eq__" = some (some (.ref f))) (hf : isFn K (.ref f) = true)
    (hn : findIn K (.ref C) "__ne__" = some (some (.builtin "object.__ne__"))) (hsub : subIn K (.ref C) (.type "object") = some true)
    (h : wpAny (model prog w) A.in1 (call (.ref f) [.ref x, .ref y]) (fun v s' => ∃ b, v = .bool b ∧ Q (.bool (!b)) s') E s) : wpAny (model prog w) A (richCompare .NotEq (.ref x) (.ref y)) Q E s := by
  have X := X₀.keeps F.keep
  have sub : Looks (model prog w) s.heap (isInstance (.ref x) (.type "object")) true := I.type.andThen (looks_subIn X hsub)
  have one : wpAny (model prog w) A (tryCompare (.ref x) "__ne__" (.ref y)) (fun r s' => ∃ v, r = some v ∧ Q v s') E s := by
    unfold tryCompare
    refine wpAny_bind (gd_ifBound_ne X I hn ?_)
    refine wpAny_call (codeAny_call_builtin PySem.F.cmp_object.ne.plain PySem.F.cmpEntry_ne ?_)
    refine check_slot (s := s) PySem.F.cmpKind_ne PySem.F.cmpSplit_ne sub (PySem.F.cmpArgs_ne _ _) ?_
    unfold Builtin.«object.__ne__»
    refine wpAny_bind (m := slotArgs "__ne__" 1 _) (wpAny_pure ?_)
    refine wpAny_bind (wpAny_cRoomFor hu ?_)
    refine wpAny_bind (m := callSpecialIfBound? (.ref x) (Str.ofString "__eq__") [.ref y]) (ifBound_K X I hs hf (wpAny_mono h (fun r s' hr => ?_) fun _ _ e => e))
    obtain ⟨b, rfl, hq⟩ := hr
    refine wpAny_bind (m := truthy (.bool b)) (wpAny_truthy_bool ?_)
    refine wpAny_pure ?_
    exact wpAny_pure ⟨_, rfl, hq⟩
  unfold richCompare
  simp only [oneThing_ref]
  refine wpAny_holding (wpAny_bind (wpAny_cRoomFor (Nat.lt_of_succ_lt hu) ?_))
  rw [cmpInfo_NotEq]
  dsimp only
  refine wpAny_bind (I.type.here (wpAny_bind (J.type.here ?_)))
  rw [show (Value.ref C != Value.ref C) = false from by simp]
  simp only [Bool.false_eq_true, if_false]
  refine wpAny_bind (wpAny_pure ?_)
  simp only [Bool.false_eq_true, if_false]
  refine wpAny_bind (wpAny_mono one (fun v s' hv => ?_) fun _ _ e => e)
  obtain ⟨v, rfl, hq⟩ := hv
  first | exact wpAny_pure hq | exact wpAny_pure (wpAny_pure hq)
end
end PySem.W
namespace Gd
open PySem PySem.Spec PyProof.Rows L2
structure EqM (K : PySem.W.Frag) (C f : Addr) : Prop where
  at_ : PySem.W.findIn K (.ref C) "__eq__" = some (some (.ref f))
  fn : PySem.W.isFn K (.ref f) = true
  ne : PySem.W.findIn K (.ref C) "__ne__" = some (some (.builtin "object.__ne__"))
  sub : PySem.W.subIn K (.ref C) (.type "object") = some true
def rCmpO (C : Addr) (sp : Sp) (neg : Bool) : R2 := fun x y H Q => ∃ a b dx dy fs gs, x = .ref a ∧ y = .ref b ∧ H a = some (.ins C dx fs) ∧ H b = some (.ins C dy gs) ∧ sp [.ref a, .ref b] H (fun v H' => ∃ r, v = .bl r ∧ Q (.bl (if neg then !r else r)) H') E0
section
variable {X : Cx} {k : Nat} {C f : Addr} {fd : FuncData} {ps : List Str} {sp : Sp}
theorem op_eqO (M : EqM X.K C f) (F : FnOk X.prog X.w X.K X.mg X.base CX0 k f fd ps sp) (hr : Room (k + 1) X.A) (hb : Binds X.K fd ps []) : OpR X (compareOp .Eq) (rCmpO C sp false) := by
  intro pins s σ H x y v u Q I rx ry h
  obtain ⟨a, b, dx, dy, fs, gs, rfl, rfl, ea, eb, hsp⟩ := h
  cases rx
  cases ry
  obtain ⟨mA, J, _⟩ := ins_get I.hok ea
  obtain ⟨mB, J', _⟩ := ins_get I.hok eb
  obtain ⟨od, J, _⟩ := J.look
  obtain ⟨od', J', _⟩ := J'.look
  obtain ⟨m, hF⟩ := I.fr
  show wpAny (model X.prog X.w) X.A (richCompare .Eq (.ref a) (.ref b)) _ _ s
  refine PySem.W.cmp_K (op := .Eq) (tb := .ref C) hr.units0 hF I.ok.mod.kin J J'.type (by simp [PySem.W.notFirst]) M.at_ M.fn ?_
  have r2 : Vals [V.ref a, V.ref b] [Value.ref a, Value.ref b] := .cons rfl (.cons rfl .nil)
  refine wpAny_mono (run_sub F ⟨hr.mono (Nat.le_succ _), rfl⟩ hb pass0 I r2 hsp) (fun w s' hq => ?_) fun _ _ x => x
  obtain ⟨v, H', I', rv, r, e, q⟩ := hq
  subst e
  cases rv
  exact ⟨.bl r, H', I', rfl, q⟩
theorem op_neO (M : EqM X.K C f) (F : FnOk X.prog X.w X.K X.mg X.base CX0 k f fd ps sp) (hr : Room (k + 1) X.A) (hb : Binds X.K fd ps []) : OpR X (compareOp .NotEq) (rCmpO C sp true) := by
  intro pins s σ H x y v u Q I rx ry h
  obtain ⟨a, b, dx, dy, fs, gs, rfl, rfl, ea, eb, hsp⟩ := h
  cases rx
  cases ry
  obtain ⟨mA, J, _⟩ := ins_get I.hok ea
  obtain ⟨mB, J', _⟩ := ins_get I.hok eb
  obtain ⟨od, J, _⟩ := J.look
  obtain ⟨od', J', _⟩ := J'.look
  obtain ⟨m, hF⟩ := I.fr
  show wpAny (model X.prog X.w) X.A (richCompare .NotEq (.ref a) (.ref b)) _ _ s
  refine PySem.W.gd_ne_K (by have := hr.units; omega) hF I.ok.mod.kin J J' M.at_ M.fn M.ne M.sub ?_
  have r2 : Vals [V.ref a, V.ref b] [Value.ref a, Value.ref b] := .cons rfl (.cons rfl .nil)
  refine wpAny_mono (run_sub F (L2.Sub.in1 ⟨hr, rfl⟩) hb pass0 I r2 hsp) (fun w s' hq => ?_) fun _ _ x => x
  obtain ⟨v, H', I', rv, r, e, q⟩ := hq
  subst e
  cases rv
  exact ⟨r, rfl, .bl (!r), H', I', rfl, q⟩
theorem kEqO (K : PySem.W.Frag) (M : EqM K C f) (F : FnOk X.prog X.w K X.mg X.base CX0 k f fd ps sp) (hr : Room (k + 1) X.A) (hb : Binds K fd ps []) (h : X.K = K := by rfl) : OpR X (compareOp .Eq) (rCmpO C sp false) := by subst h; exact op_eqO M F hr hb
theorem kNeO (K : PySem.W.Frag) (M : EqM K C f) (F : FnOk X.prog X.w K X.mg X.base CX0 k f fd ps sp) (hr : Room (k + 1) X.A) (hb : Binds K fd ps []) (h : X.K = K := by rfl) : OpR X (compareOp .NotEq) (rCmpO C sp true) := by subst h; exact op_neO M F hr hb
end
theorem g2_cmpO {m : M} {Q : D → M → Prop} {C : Addr} {T : TD} {neg : Bool} {ns ns' : List Str} {ds ds' : List D} (h : T [.obj C ns ds, .obj C ns' ds'] m (fun v m' => ∃ r, v = .bl r ∧ Q (.bl (if neg then !r else r)) m') (fun _ _ _ => False)) : g2 (rCmpO C (spOf T) neg) (.obj C ns ds) (.obj C ns' ds') m Q := fun H vx vy s r1 r2 Q' k => by
  obtain ⟨a, dx, xs, rfl, oa, ea, l, ra⟩ := id r1.obj_inv
  obtain ⟨b, dy, ys, rfl, ob, eb, l', rb⟩ := id r2.obj_inv
  refine ⟨a, b, dx, dy, _, _, rfl, rfl, ea, eb, [.obj C ns ds, .obj C ns' ds'], m, _, fun _ _ _ => False, .cons r1 (.cons r2 .nil), s, h, fun v H' z m' s2 r3 t2 ⟨r, e, q⟩ => ?_, fun _ _ _ _ _ _ _ _ z => z.elim⟩
  subst e
  exact ⟨r, r3.bl_inv, k _ H' (.bl _) m' s2 (.bl _) t2 q⟩
/-- what isinstance asks of an own class -/
structure IsM (K : PySem.W.Frag) (C : Addr) : Prop where
  ha : PySem.W.findIn K (.ref C) "__class__" = some (some (.builtin "object.__class__"))
  hn : PySem.W.specialIn K (.builtin "object.__class__") "__get__" = some (some (.builtin "getset_descriptor.__get__"))
  ht : PySem.W.takesIn K (.builtin "object.__class__") = some true
  hm : PySem.W.mroIn K C (.type "object") = some true
theorem gc_isiO {m : M} {Q : D → M → Prop} {K : PySem.W.Frag} {C : Addr} {ns : List Str} {ds : List D} (c : Cls K C) (i : IsM K C) (q : Q (.bl true) m) : gc (rIsi K) [.obj C ns ds, .ref C] m Q := fun H vs s r Q' k => by
  cases r with | cons r1 r2 =>
  cases r2 with | cons r2 r3 =>
  cases r3
  obtain ⟨a, dx, xs, rfl, oa, ea, l, ra⟩ := r1.obj_inv
  rw [r2.ref_inv]
  refine ⟨_, _, .ref C, .ref C, true, rfl, .own C, .base (.ins ea c i.ha i.hn i.ht i.hm), ?_, k _ H _ m .refl (.bl _) s q⟩
  unfold PySem.W.kitOne
  rw [if_pos (beq_self_eq_true _)]
theorem spanL_plainM (f s : Int) {n : Int} (hn : 0 ≤ n) : spanL (plainM f s n) = spanL (f, s, n) := by
  by_cases z : n < 1
  · rw [plain_zero _ _ z, show n = 0 by omega]
    rfl
  · rw [plain_pos _ _ (by omega)]
    unfold spanL
    apply List.map_congr_left
    intro i hi
    have hi : i < n.toNat := List.mem_range.mp hi
    show f + (if 1 < n then s else 1) * (i : Int) = f + s * (i : Int)
    by_cases z1 : 1 < n
    · rw [if_pos z1]
    · rw [show (i : Int) = 0 by omega, Int.mul_zero, Int.mul_zero]
/-- numbers of a run: bounded -/
structure RunB (b s n : Int) : Prop where
  n0 : 0 ≤ n
  n1 : n ≤ 200
  nz : s ≠ 0
  st : -10000000 ≤ s ∧ s ≤ 10000000
  f : -100000000 ≤ b ∧ b ≤ 100000000
theorem RunB.spB {b s n : Int} (h : RunB b s n) : SpB (plainM b s n) := by
  obtain ⟨n0, n1, nz, st, f⟩ := h
  by_cases z : n < 1
  · rw [plain_zero _ _ z]
    exact ⟨by decide, by decide, by show (1 : Int) ≠ 0; decide, by decide, by decide, by decide⟩
  · rw [plain_pos _ _ (by omega)]
    have hm : ∀ t : Int, -10000000 ≤ t ∧ t ≤ 10000000 → -2000000000 ≤ t * (n - 1) ∧ t * (n - 1) ≤ 2000000000 := fun t ht => by
      have a1 : t * (n - 1) ≤ 10000000 * (n - 1) := Int.mul_le_mul_of_nonneg_right ht.2 (by omega)
      have a2 : -10000000 * (n - 1) ≤ t * (n - 1) := Int.mul_le_mul_of_nonneg_right ht.1 (by omega)
      omega
    have hs : (if 1 < n then s else 1) ≠ 0 ∧ -10000000 ≤ (if 1 < n then s else 1) ∧ (if 1 < n then s else 1) ≤ 10000000 := by split <;> omega
    have := hm _ ⟨hs.2.1, hs.2.2⟩
    refine ⟨by show 0 ≤ n; omega, by show n ≤ 1000000000; omega, hs.1, by show -1000000000 ≤ (if 1 < n then s else 1) ∧ (if 1 < n then s else 1) ≤ 1000000000; omega, by show -10000000000 ≤ b ∧ b ≤ 10000000000; omega, ?_⟩
    show -10000000000 ≤ b + (if 1 < n then s else 1) * (n - 1) ∧ b + (if 1 < n then s else 1) * (n - 1) ≤ 10000000000
    omega
theorem Common.plain {b s n b' s' n' : Int} {r : Spn} (hn : 0 ≤ n) (hn' : 0 ≤ n') (h : Common (plainM b s n) (plainM b' s' n') r) : Common (b, s, n) (b', s', n') r := ⟨h.nf, h.pos, fun x => by rw [h.mem, spanL_plainM _ _ hn, spanL_plainM _ _ hn']⟩
/-- a run that ends where so many steps lead, or nearer -/
theorem cnt_le {b e s k : Int} (hs : s ≠ 0) (hk : 0 ≤ k) (h : (0 < s → e ≤ b + s * k) ∧ (s < 0 → b + s * k ≤ e)) : 0 ≤ cntM b e s ∧ cntM b e s ≤ k := by
  unfold cntM
  by_cases hp : 0 < s
  · rw [if_pos hp]
    obtain ⟨n, n1, n2, n3⟩ := steps_of (e - b) hp
    rw [n1]
    have h1 := h.1 hp
    by_cases z : 0 < e - b
    · obtain ⟨m1, m2, _, _, _⟩ := n3 z
      have : n ≤ k := by
        by_cases w : n ≤ k
        · exact w
        · have : s * k ≤ s * (n - 1) := Int.mul_le_mul_of_nonneg_left (by omega) (by omega)
          omega
      unfold mx
      split <;> omega
    · have := n2 (by omega)
      unfold mx
      split <;> omega
  · rw [if_neg hp]
    obtain ⟨n, n1, n2, n3⟩ := steps_of (b - e) (show 0 < 0 - s by omega)
    rw [show b - e - s - 1 = b - e + (0 - s) - 1 by omega, n1]
    have h1 := h.2 (by omega)
    by_cases z : 0 < b - e
    · obtain ⟨m1, m2, _, _, _⟩ := n3 z
      have : n ≤ k := by
        by_cases w : n ≤ k
        · exact w
        · have h3 : (0 - s) * k ≤ (0 - s) * (n - 1) := Int.mul_le_mul_of_nonneg_left (by omega) (by omega)
          have h4 : (0 - s) * k = -(s * k) := by rw [Int.zero_sub, Int.neg_mul]
          omega
      unfold mx
      split <;> omega
    · have := n2 (by omega)
      unfold mx
      split <;> omega
theorem spanL_nodup {s : Spn} (h : s.2.1 ≠ 0) : (spanL s).Nodup := by
  unfold spanL
  rw [List.Nodup, List.pairwise_map]
  refine List.Pairwise.imp (fun {a b} hab => ?_) List.pairwise_lt_range
  intro z
  have e : s.2.1 * (a : Int) = s.2.1 * (b : Int) := by omega
  have := Int.eq_of_mul_eq_mul_left h e
  omega
/-- a run of numbers that lie near -/
structure RunC (s : Spn) : Prop where
  n0 : 0 ≤ s.2.2
  n1 : s.2.2 ≤ 200
  nz : s.2.1 ≠ 0
  st : -4000000 ≤ s.2.1 ∧ s.2.1 ≤ 4000000
  f : -2000000 ≤ s.1 ∧ s.1 ≤ 2000000
  all : ∀ x ∈ spanL s, -2000000 ≤ x ∧ x ≤ 2000000
theorem RunC.b {s : Spn} (h : RunC s) : RunB s.1 s.2.1 s.2.2 := ⟨h.n0, h.n1, h.nz, by have := h.st; omega, by have := h.f; omega⟩
theorem RunC.of_nf {r : Spn} (hn : Nf r) (hz : r.2.1 ≠ 0) (h1 : r.2.2 ≤ 200) (hall : ∀ x ∈ spanL r, -2000000 ≤ x ∧ x ≤ 2000000) : RunC r := by
  have n0 := hn.n0
  by_cases z : r.2.2 = 0
  · have e := hn.zero z
    rw [e] at hall ⊢
    exact ⟨by decide, by decide, by show (1 : Int) ≠ 0; decide, by decide, by decide, hall⟩
  · have m0 := hall (r.1 + r.2.1 * ((0 : Nat) : Int)) (spanL_mem.mpr ⟨0, by omega, rfl⟩)
    simp only [Int.ofNat_zero, Int.mul_zero, Int.add_zero] at m0
    refine ⟨n0, h1, hz, ?_, m0, hall⟩
    by_cases z1 : r.2.2 = 1
    · rw [hn.one z1]; decide
    · have m1 := hall (r.1 + r.2.1 * ((1 : Nat) : Int)) (spanL_mem.mpr ⟨1, by omega, rfl⟩)
      simp only [Int.natCast_one, Int.mul_one] at m1
      omega
theorem Common.runC {s t r : Spn} (h : Common s t r) (hs : RunC s) : RunC r := by
  have hp := h.pos
  refine RunC.of_nf h.nf (by omega) ?_ fun x hx => hs.all x ((h.mem x).mp hx).1
  have hle := List.Nodup.length_le_of_subset (nodup_of_lt (rise_sorted h.pos)) (fun x hx => ((h.mem x).mp hx).1 : spanL r ⊆ spanL s)
  rw [spanL_len, spanL_len] at hle
  have := hs.n1
  have := h.nf.n0
  omega
theorem runC_near {b s n : Int} (hb : -900030 ≤ b ∧ b ≤ 900030) (hs : s ≠ 0) (hs1 : -1000 ≤ s ∧ s ≤ 1000) (hn : 0 ≤ n ∧ n ≤ 200) : RunC (b, s, n) := by
  refine ⟨hn.1, hn.2, hs, by show -4000000 ≤ s ∧ s ≤ 4000000; omega, by show -2000000 ≤ b ∧ b ≤ 2000000; omega, fun x hx => ?_⟩
  obtain ⟨i, hi, e⟩ := spanL_mem.mp hx
  have hi : i < n.toNat := hi
  have e : x = b + s * (i : Int) := e
  have a1 : s * (i : Int) ≤ 1000 * (i : Int) := Int.mul_le_mul_of_nonneg_right hs1.2 (by omega)
  have a2 : -1000 * (i : Int) ≤ s * (i : Int) := Int.mul_le_mul_of_nonneg_right hs1.1 (by omega)
  omega
end Gd

namespace Gd
open PySem PySem.Spec PyProof.Rows L2
/-! ### repr(o) by an own __repr__ -/
structure ReprM (K : PySem.W.Frag) (C f : Addr) : Prop where
  at_ : PySem.W.findIn K (.ref C) "__repr__" = some (some (.ref f))
  fn : PySem.W.isFn K (.ref f) = true
def rReprO (C : Addr) (sp : Sp) : List V → Hp → VK → Prop := fun xs H Q => ∃ a dx fs, xs = [.ref a] ∧ H a = some (.ins C dx fs) ∧ sp [.ref a] H (fun v H' => ∃ z : Str, v = .str z ∧ Q (.str z) H') E0
theorem call_reprO {X : Cx} {k : Nat} {C f : Addr} {fd : FuncData} {ps : List Str} {sp : Sp} (L : ReprM X.K C f) (F : FnOk X.prog X.w X.K X.mg X.base CX0 k f fd ps sp) (hr : Room (k + 1) X.A) (hb : Binds X.K fd ps []) : CallR X (.builtin "repr") (rReprO C sp) := by
  intro pins s σ H xs us Q I r h
  obtain ⟨a, dx, fs, rfl, ea, hsp⟩ := h
  obtain ⟨u, rfl, rx⟩ := vals1 r
  cases rx
  obtain ⟨mA, J, _⟩ := ins_get I.hok ea
  obtain ⟨od, J, _⟩ := J.look
  obtain ⟨m, hF⟩ := I.fr
  refine PySem.W.repr_K hr.in1.units0 hF I.ok.mod.kin J L.at_ L.fn ?_
  have r2 : Vals [V.ref a] [Value.ref a] := .cons rfl .nil
  refine wpAny_mono (run_sub F (L2.Sub.in1 ⟨hr, rfl⟩) hb pass0 I r2 hsp) (fun w s' hq => ?_) fun _ _ x => x
  obtain ⟨v, H', I', rv, z, e, q⟩ := hq
  subst e
  obtain ⟨t, rfl⟩ := rv
  exact ⟨.str z, H', I', ⟨t, rfl⟩, q⟩
theorem kReprO {X : Cx} (K : PySem.W.Frag) {k : Nat} {C f : Addr} {fd : FuncData} {ps : List Str} {sp : Sp} (L : ReprM K C f) (F : FnOk X.prog X.w K X.mg X.base CX0 k f fd ps sp) (hr : Room (k + 1) X.A) (hb : Binds K fd ps []) (h : X.K = K := by rfl) : CallR X (.builtin "repr") (rReprO C sp) := by subst h; exact call_reprO L F hr hb
theorem gc_reprO {m : M} {Q : D → M → Prop} {C : Addr} {T : TD} {ns : List Str} {ds : List D} (h : T [.obj C ns ds] m (fun v m' => ∃ z : Str, v = .str z ∧ Q (.str z) m') (fun _ _ _ => False)) : gc (rReprO C (spOf T)) [.obj C ns ds] m Q := fun H vs s r Q' k => by
  cases r with | cons r1 r2 =>
  cases r2
  obtain ⟨a, dx, xs, rfl, oa, ea, l, ra⟩ := id r1.obj_inv
  refine ⟨a, dx, _, rfl, ea, [.obj C ns ds], m, _, fun _ _ _ => False, .cons r1 .nil, s, h, fun v H' z m' s2 r2 t2 ⟨w, e, q⟩ => ?_, fun _ _ _ _ _ _ _ _ z => z.elim⟩
  subst e
  exact ⟨w, r2.str_inv, k _ H' (.str w) m' s2 (.str w) t2 q⟩
/-! ### f-strings -/
def gj (xc : Xc) : List TE → Str → Dl → M → (Str → M → Prop) → Prop
  | [], acc, _, m, Q => Q acc m
  | t :: ts, acc, d, m, Q => ge xc t d m fun x m1 => ∃ y : Str, x = .str y ∧ (acc ++ y).length ≤ sizeLine ∧ gj xc ts (acc ++ y) d m1 Q
theorem gj_run {xc : Xc} : ∀ {ts : List TE} {acc : Str} {d : Dl} {m : M} {Q : Str → M → Prop}, gj xc ts acc d m Q → ∀ sg H, MSat m H → ESat xc d m sg H → ∀ Q' : Str → Hp → Prop, (∀ v H' m', Step m H m' H' → MSat m' H' → Q v m' → Q' v H') → tJs ts acc sg H Q'
  | [], _, _, m, _, h, sg, H, s, e, Q', k => k _ H m .refl s h
  | t :: ts, _, _, _, _, h, sg, H, s, e, Q', k => h sg H s e _ fun v H1 x m1 s1 r1 t1 ⟨y, hy, hl, h2⟩ => by
    subst hy
    exact ⟨y, r1.str_inv, hl, gj_run h2 sg H1 t1 (e.step s1) Q' fun v H' m' a b c => k v H' m' (s1.trans a) b c⟩
theorem ge_joined {xc : Xc} {ts : List TE} {d : Dl} {m : M} {Q : D → M → Prop} (h : gj xc ts Str.empty d m fun out m1 => Q (.str out) m1) : ge xc (fun σ H Q => tJs ts Str.empty σ H fun out H1 => Q (.str out) H1) d m Q := fun sg H s e Q' k =>
  gj_run h sg H s e _ fun v H' m' a b c => k _ H' _ m' a (.str v) b c
theorem ge_fmtI {xc : Xc} {te : TE} {d : Dl} {m : M} {Q : D → M → Prop} (h : ge xc te d m fun x m1 => ∃ i : Int, x = .int i ∧ i.natAbs.log2 < 1920 ∧ Q (.str (toString i)) m1) : ge xc (tFmt te) d m Q := fun sg H s e Q' k =>
  h sg H s e _ fun v H1 x m1 s1 r1 t1 ⟨i, hi, hl, q⟩ => by
    subst hi
    exact .inr ⟨i, r1.int_inv, hl, k _ H1 _ m1 s1 (.str _) t1 q⟩
/-- what repr tells of a run -/
def runT (b e s : Int) : Str := Str.empty ++ "Run(" ++ toString b ++ ", " ++ toString e ++ ", " ++ toString s ++ ")"
end Gd

namespace L2
open PySem PySem.Spec PyProof.Rows
section
variable {X : Cx} {pins : List (Addr × Obj)} {σ : St} {H : Hp} {s : Shared}
/-- a pinned object that is new is tracked from here on -/
theorem Inv.trackG {a : Addr} {oe : Obj} {o : HO} (I : Inv X ((a, oe) :: pins) σ H s) (n0 : X.s_0.heap.get? a = none) (np : ∀ p ∈ X.pn ++ pins, p.1 ≠ a) (new : ObjOk X.prog X.w (upd H a o) s.heap a o) : Inv X pins σ (upd H a o) s := by
  obtain ⟨ha, na, nL, nF, nc⟩ := I.pin (a, oe) (List.mem_append.mpr (.inr List.mem_cons_self))
  have nn : ∀ b u, H b = some u → b ≠ a := fun b u e z => by rw [z] at e; rw [na] at e; cases e
  refine ⟨I.ok, I.os, I.bare, ⟨I.base.keep, I.base.slot, fun b u e n hx => ?_, I.base.there, fun b xs e => ?_, fun b u v e => ?_, fun b ps e => ?_⟩, I.loc, I.cell, ?_, fun x c e => ?_, fun p hp => ?_, fun b u e => ?_, I.len⟩
  · rw [upd_ne (fun z => by rw [z, n0] at e; cases e)]
    exact I.base.free b u e n hx
  · have q := I.base.tups b xs e
    rw [upd_ne (nn _ _ q)]; exact q
  · have q := I.base.frzs b u v e
    rw [upd_ne (nn _ _ q)]; exact q
  · obtain ⟨m, q⟩ := I.base.tbls b ps e
    exact ⟨m, by rw [upd_ne (nn _ _ q)]; exact q⟩
  · rw [upd_ne (Ne.symm nL)]; exact I.free
  · have hc : c ≠ a := fun z => by
      obtain ⟨v, o', e1, e2⟩ := I.cell x c e
      rw [z, ha] at e1
      cases e1
      exact nc v e2
    rw [upd_ne hc]; exact I.freeC x c e
  · obtain ⟨e1, e2, e3, e4, e5⟩ := I.pin p (by
      rcases List.mem_append.mp hp with h | h
      · exact List.mem_append.mpr (.inl h)
      · exact List.mem_append.mpr (.inr (List.mem_cons_of_mem _ h)))
    exact ⟨e1, by rw [upd_ne (np p hp)]; exact e2, e3, e4, e5⟩
  · by_cases hb : b = a
    · subst hb
      rw [upd_same] at e
      cases e
      exact new
    · rw [upd_ne hb] at e
      exact (I.hok b u e).stay (fun _ _ _ q => q) (fun c q => by rw [upd_ne (nn _ _ q)]; exact q) fun c xs q => by rw [upd_ne (nn _ _ q)]; exact q
theorem Inv.unsuiteK {a : Addr} {q : Addr × Obj} {pn' : List (Addr × Obj)} (I : Inv (X.suite a (q :: (X.pn ++ pins))) pn' σ H s) (ok : X.Ok) : Inv X (q :: pins) σ H s :=
  ⟨ok, I.os, I.bare, I.base, I.loc, I.cell, I.free, I.freeC, fun p hp => I.pin p (List.mem_append_left _ (by
    rcases List.mem_append.mp hp with h | h
    · exact List.mem_cons_of_mem _ (List.mem_append.mpr (.inl h))
    · rcases List.mem_cons.mp h with e | h
      · rw [e]; exact List.mem_cons_self
      · exact List.mem_cons_of_mem _ (List.mem_append.mpr (.inr h)))), I.hok, I.len⟩
end
/-- what 'except x as n' wishes of an exception, if what it caught may be kept -/
def wKeep (K : PySem.W.Frag) (c : Value) (i : Nat) (ts : Addr → Value → Option Addr → TS) (Wout : WX) (D : Ends) : WX := fun cls d σ H =>
  ∃ b, PySem.W.exmOne K cls c = some b ∧ (b = true → ∀ a, H a = none → ts a cls d { nx := fun σ' H' => D.nx (σ'.set i none) (upd H' a (Gd.EkO cls d a)), rt := fun _ _ => False, bk := fun _ _ => False, ct := fun _ _ => False } (σ.set i (some (.ref a))) H) ∧
    (b = false → Wout cls d σ H)
section
variable {X : Cx} {x n : Str} {c : Value} {i : Nat} {body suite : List Stmt} {b₀ : Stmt} {np pos pos' : Pos} {tb : WX → TS} {ts : Addr → Value → Option Addr → TS} {Wout : WX}
theorem ps_try_keep (hs : X.stack = X.env :: X.outer) (hf : X.env.frame = some X.env.locals) (hex : X.ex = []) (hN : X.N.Nodup) (hi : X.N[i]? = some n) (hln : X.env.kindOf n = some .local) (hc : Names X x c) (tk : Takes X Wout)
    (hb : ∀ (W : WX) (pn : List (Addr × Obj)) (xe : Value → Shared → Prop), Takes (X.tr pn xe) W → PassesOwn (model X.prog X.w) X.A X.env xe → PSs (X.tr pn xe) body (tb W))
    (hsu : ∀ (a : Addr) (oe : Obj) (cls : Value) (d : Option Addr) (pn : List (Addr × Obj)), Zc cls d oe → (∃ vs, oe.data = .fields vs) → PSs (X.suite a ((a, oe) :: pn)) (b₀ :: suite) (ts a cls d)) :
    PS X (.Try body [.ExceptHandler (some (.Name x np)) (some n) (b₀ :: suite) pos'] [] [] pos) (fun D σ H => tb (wKeep X.K c i ts Wout D) D σ H) := by
  refine ⟨fun pins s σ H D I h => ?_⟩
  have ok := I.ok
  have hfr : X.A.frames = some (X.env :: X.outer) := by rw [ok.frames, hs]
  have hloc : Loc X.env.scope n := .inl hln
  refine wpAny_Try_except ?_
  refine wpAny_mono ((hb (wKeep X.K c i ts Wout D) (X.pn ++ pins) (fun e s₁ => wpAny (model X.prog X.w) X.A (noteFrame e X.env) (fun _ s₂ => wpAny (model X.prog X.w) X.A (setFlight e none) (fun _ s₃ =>
    wpAny (model X.prog X.w) X.A (handleBy e X.env [.ExceptHandler (some (.Name x np)) (some n) (b₀ :: suite) pos']) (SP X pins D) X.xe s₃) X.xe s₂) X.xe s₁) (fun u s' xx => ?_) PassesOwn.looking).run [] s σ H D (I.toTry _) h) (fun f s1 hsp => ?_) (fun e s1 he => he)
  · obtain ⟨a, B, sI, pins', σ', H', cls, d, rfl, J', nb, up, sky, na, os, ag, b, hb1, hyes, hno⟩ := xx
    have J : Inv X pins σ' H' sI := J'.ofTry ok
    have sky' : Sky B (X.env :: X.outer) a (Zc cls d) X.env.locals s'.heap := by rw [← hs]; exact sky
    show wpAny (model X.prog X.w) X.A (noteFrame (.ref a) X.env) _ _ _
    refine Sky.land Zc.steady hfr hf sky' fun h3 fl3 up3 => ?_
    have J3 : Inv X pins σ' H' { s' with heap := h3 } := J.landed nb fl3.1 (up.trans up3) os ag
    obtain ⟨oe3, vs3, he3, hz3, hd3⟩ := fl3.there
    have notFr : ∀ {h : Heap} {o : Obj} {vs : Array Value}, h.FunFrames B (X.env :: X.outer) → h.get? a = some o → o.data = .fields vs → a ∉ frs (X.env :: X.outer) := fun {h o vs} ff e dd hm => by
      obtain ⟨_, o', e', hnf⟩ := ff.mem hm
      rw [e] at e'; cases e'
      exact hnf _ dd
    have nfr := notFr fl3.2.2.1 he3 hd3
    have nI : sI.heap.get? a = none := by
      cases q : sI.heap.get? a with
      | none => rfl
      | some o =>
        have z := nb a o q (by rw [hs]; exact nfr)
        rw [fl3.2.1] at z
        cases z
    have n0 : X.s_0.heap.get? a = none := by
      cases q : X.s_0.heap.get? a with
      | none => rfl
      | some o =>
        obtain ⟨o', z⟩ := J.base.there a o q (by rw [hex]; exact fun z => nomatch z)
        rw [nI] at z
        cases z
    have npin : ∀ p ∈ X.pn ++ pins, p.1 ≠ a := fun p hp z => by
      have e := (J.pin p hp).1
      rw [z, nI] at e
      cases e
    have nL : a ≠ X.env.locals := fun z => nfr (List.mem_filterMap.mpr ⟨X.env, List.mem_cons_self, by rw [hf, z]⟩)
    have nF : a ∉ X.fs := fun hm => by
      obtain ⟨e, he, q⟩ := List.mem_filterMap.mp hm
      exact nfr (List.mem_filterMap.mpr ⟨e, List.mem_cons_of_mem _ he, q⟩)
    have S3 := J3.suite he3 hd3 na nL nF
    refine wpAny_handleBy_cons (codeAny_handlers_test ?_) (by intro q; cases q)
    have LT : PySem.W.Looks (model X.prog X.w) h3 (typeOf (.ref a)) cls := fun A Q E s k q => wpAny_typeOf_ref (k _ _ he3) (by rw [hz3.1]; exact q)
    have LM := PySem.W.exm_one (M := model X.prog X.w) (J3.kIn) LT hb1
    have test : ∀ {Q : Value → Shared → Prop} {E : Value → Shared → Prop}, Q c { s' with heap := h3 } → wpAny (model X.prog X.w) (X.A.mark (some (.ref a))) (eval (.Name x np) X.env) Q E { s' with heap := h3 } := fun {Q E} q => by
      obtain ⟨hg, hdbg, hm | ⟨hm, hv, hnn⟩⟩ := hc
      · exact ld_glob (X := X.suite a ((a, oe3) :: (X.pn ++ pins))) S3 hg hm q hdbg
      · exact ld_blt (X := X.suite a ((a, oe3) :: (X.pn ++ pins))) S3 hg hm hv q hnn hdbg
    refine test (LM.here ?_)
    cases b with
    | true =>
      refine codeAny_handlers_suite_as ?_
      refine HandSPX.lands_againZ fl3 fun h4 fl4 up4 => ?_
      have J4 : Inv X pins σ' H' { s' with heap := h4 } := J.landed nb fl4.1 ((up.trans up3).trans up4) os ag
      obtain ⟨oe4, vs4, he4, hz4, hd4⟩ := fl4.there
      have S4 := J4.suite he4 hd4 na nL nF
      refine store_ok (X := X.suite a ((a, oe4) :: (X.pn ++ pins))) (v := .ref a) S4 hN hi hloc rfl (fun s5 S5 => ?_) (.inr hln)
      refine wpAny_mono ((hsu a oe4 cls d (X.pn ++ pins) hz4 ⟨_, hd4⟩).run [] s5 _ H' _ S5 (hyes rfl a na)) (fun f s6 hsp => ?_) (fun _ _ z => False.elim z)
      cases f with
      | next =>
        obtain ⟨σ6, H6, S6, q6⟩ := hsp
        have S7 := S6.unsuiteK ok
        refine gone_ok S7 hN hi hln fun s7 J7 => ?_
        obtain ⟨e7, _⟩ := J7.pin (a, oe4) (List.mem_append.mpr (.inr List.mem_cons_self))
        exact ⟨_, _, J7.trackG n0 npin (Gd.ekO_ok e7 hz4 hd4), q6⟩
      | brk =>
        obtain ⟨σ6, H6, S6, q6⟩ := hsp
        exact False.elim q6
      | cont =>
        obtain ⟨σ6, H6, S6, q6⟩ := hsp
        exact False.elim q6
      | ret u =>
        obtain ⟨v6, σ6, H6, S6, r6, q6⟩ := hsp
        exact False.elim q6
    | false =>
      show wpAny _ X.A (handleBy (.ref a) X.env []) _ _ _
      refine wpAny_handleBy_nil ?_
      obtain ⟨k1, k2, k3, oe, vs, T, oT, ts', he, hz, hd, h1, hr⟩ := id fl3
      unfold PySem.passOn
      refine wpAny_bind (wpAny_field he hd h1 ?_)
      rw [if_neg (show ¬ ((Value.ref T == Value.none) = true) from by simp)]
      have fin : wpAny (model X.prog X.w) X.A (setFlight (.ref a) X.env.frame) (fun _ s4 => wpAny (model X.prog X.w) X.A (throw (.ref a) : Sem Flow) (SP X pins D) X.xe s4) X.xe { s' with heap := h3 } := by
        rw [hf]
        refine HandSPX.setFlight_upZ fl3 fun h4 hh4 up4 => wpAny_throw (tk _ _ ?_)
        exact ⟨a, B, sI, pins, σ', H', cls, d, rfl, J, nb, (up.trans up3).trans up4, .inr (.inr (by rw [hs]; exact hh4)), na, os, ag, hno rfl⟩
      first
        | exact wpAny_bind (wpAny_pure (wpAny_bind fin))
        | exact wpAny_bind fin
  · cases f with
    | next =>
      obtain ⟨σ', H', J', q⟩ := hsp
      exact wpAny_execs_nil ⟨σ', H', J'.ofTry ok, q⟩
    | brk =>
      obtain ⟨σ', H', J', q⟩ := hsp
      exact ⟨σ', H', J'.ofTry ok, q⟩
    | cont =>
      obtain ⟨σ', H', J', q⟩ := hsp
      exact ⟨σ', H', J'.ofTry ok, q⟩
    | ret u =>
      obtain ⟨v, σ', H', J', r, q⟩ := hsp
      exact ⟨v, σ', H', J'.ofTry ok, r, q⟩
end
/-- isinstance(e, c), e an exception that was caught and kept -/
def rIsK (K : PySem.W.Frag) : List V → Hp → VK → Prop := fun xs H Q => ∃ (a D : Addr) (c : V) (cv : Value) (b : Bool), xs = [.ref a, c] ∧ H a = some (Gd.EkO (.ref D) none a) ∧ ExcC K D ∧ (∀ u, RelV c u → u = cv) ∧ PySem.W.kitOne K (.ref D) cv = some b ∧ Q (.bl b) H
theorem call_isK {X : Cx} : CallR X (.builtin "isinstance") (rIsK X.K) := by
  intro pins s σ H xs us Q I r h
  obtain ⟨a, D, c, cv, b, rfl, ha, C, hcv, e, q⟩ := h
  cases r with
  | cons rx rr =>
    cases rr with
    | cons rt rr =>
      cases rr
      cases rx
      have ec := hcv _ rt
      subst ec
      obtain ⟨⟨oe, vs, hget, hz, hv⟩, _, _⟩ := I.hok a _ ha
      have J : PySem.W.InstAt s.heap a oe D none := by
        obtain ⟨oc, od, oda, osl⟩ := oe
        obtain ⟨h1, h2⟩ := hz
        dsimp only at h1 h2 hv
        subst h1 h2 hv
        exact ⟨hget, rfl, rfl, trivial⟩
      exact PySem.W.kia_one (PySem.W.handS_kitx_exc C.hg C.hk C.hs C.hd C.ha C.hn C.ht C.hm) I.kIn J e (fun z => nomatch z) fun tk => ⟨.bl b, H, I.kept (t' := tk) fun _ _ z => z, rfl, q⟩
theorem kIsK {X : Cx} (K : PySem.W.Frag) (h : X.K = K := by rfl) : CallR X (.builtin "isinstance") (rIsK K) := by subst h; exact call_isK
/-- list.count of flat things -/
def rCntF (K : PySem.W.Frag) : V → List V → Hp → VK → Prop := fun x xs H Q => ∃ (p : Addr) (ys : List V) (y : V), x = .ref p ∧ xs = [y] ∧ SqL K H p ys ∧ flatV y = true ∧ ys.all flatV = true ∧ Q (.int (ys.countP (fun z => eqV z y) : Nat)) H
theorem eqU_count {y : V} : ∀ {ys : List V} {us : List Value}, Vals ys us → ys.all flatV = true → us.countP (eqU y) = ys.countP (fun z => eqV z y)
  | _, _, .nil, _ => rfl
  | z :: ys, u :: us, .cons r t, f => by
    rw [List.all_cons, Bool.and_eq_true] at f
    rw [List.countP_cons, List.countP_cons, eqU_count t f.2, eqU_of r f.1]
theorem mt_lcountF {X : Cx} : MtR X "list.count" (rCntF X.K) := by
  intro pins s σ H x xs v us Q I rx rxs h
  obtain ⟨p, ys, y, rfl, rfl, hs, fy, fys, q⟩ := h
  cases rx
  obtain ⟨uy, rfl, ry⟩ := rxs.one
  obtain ⟨its, rv, ⟨⟨cls, dd, data, sl⟩, n, ho, hc, hdn, hd⟩, hlen⟩ := I.list hs
  simp only at hc hd
  subst hc hd
  refine call_meets PySem.F.slot_list_count ⟨_, ho, rfl⟩ PySem.F.entry_list_count (PySem.F.args_list_count_2 _ _)
    (SeqAt.list_countAt p its.toArray n dd sl uy (eqU y)) ⟨ho, fun u' hu' => mem_eqAt ry fy rv fys u' (by simpa using hu'), ?_⟩
  have ec : its.toArray.toList.countP (eqU y) = ys.countP (fun z => eqV z y) := eqU_count rv fys
  refine ⟨.int (ys.countP (fun z => eqV z y) : Nat), H, I.tok _, ⟨s.toks, ?_⟩, q⟩
  show Value.int ((its.toArray.toList.countP (eqU y) : Nat) : Int) s.toks = Value.int ((ys.countP (fun z => eqV z y) : Nat) : Int) s.toks
  rw [ec]
theorem kCount {X : Cx} (K : PySem.W.Frag) (h : X.K = K := by rfl) : MtR X "list.count" (rCntF K) := by subst h; exact mt_lcountF
/-- raise C('..') -/
def tRaise (C : Addr) (E : XK) : TS := fun _ _ H => E (.ref C) none H
/-- what the written part says of an own exception class without own __init__ -/
structure ExcT (K : PySem.W.Frag) (mg : Str → Option Value) (x : Str) (C : Addr) : Prop where
  g : mg x = some (.ref C)
  ex : PySem.W.excIn K C [.type "IndexError", .type "LookupError", .type "Exception", .type "BaseException", .type "object"] "IndexError.__new__" = true
  kp : PySem.W.keepIn K (.ref C) = true
  sb : PySem.W.subIn K (.ref C) (.type "BaseException") = some true
  ty : PySem.W.typeIn K (.ref C) = some (.type "type")
theorem ps_raiseO {X : Cx} {K : PySem.W.Frag} {mg : Str → Option Value} {C : Addr} {E : XK} {x m : Str} {j : Nat} {p p2 pos pos2 : Pos} (t : ExcT K mg x C) (hc : X.calm = true) (hK : X.K = K) (hm : X.mg = mg) (tk : Takes X (fun cls d _ H => E cls d H)) (hg : Gl X x) (hdb : (x == ("__debug__" : Str)) = false := by decide) :
    PS X (.Raise (some (.Call (.Name x p) [.Constant (.str m) j p2] [] pos)) none pos2) (tRaise C E) := by
  subst hK hm
  exact ps_raise hc tk (pmk_own PySem.F.excBase_IndexError t.ex t.g t.kp (raises_own t.sb t.ty) hg hdb)
/-- try: v = f(..) except c as n: k = n -/
def tTryK (K : PySem.W.Frag) (c : Value) (j k i : Nat) (sp : Sp) (aa : TA) : TS := fun D σ H => aa σ H fun vs H1 => sp vs H1 (fun v H2 => D.nx (σ.set j (some v)) H2) fun cls d H2 =>
  wKeep K c i (fun _ _ _ => tAsg (tVar i) (gName k)) (fun _ _ _ _ => False) D cls d σ H2
theorem ps_tryK {X : Cx} {K : PySem.W.Frag} {c : Value} {i j k kk : Nat} {x f n y z : Str} {e : Expr} {es : List Expr} {t : TA} {fa : Addr} {fd : FuncData} {ps : List Str} {sp : Sp} {p1 p2 p3 p4 p5 p6 p7 p8 p9 pos : Pos}
    (hK : X.K = K) (hs : X.stack = X.env :: X.outer) (hf : X.env.frame = some X.env.locals) (hex : X.ex = []) (hN : X.N.Nodup) (hi : X.N[i]? = some n) (hj : X.N[j]? = some y) (hk : X.N[k]? = some z) (hln : X.env.kindOf n = some .local) (hvn : Vis X.env.scope n) (hly : X.env.scope.names.lookup y = some .local) (hlz : X.env.scope.names.lookup z = some .local) (hc : Names X x c)
    (F : FnOk X.prog X.w X.K X.mg X.base (L2.CX X.prog X.w) kk fa fd ps sp) (hr : Room kk X.A) (hg : Gl X f) (hm : X.mg f = some (.ref fa)) (hkp : PySem.W.keepIn X.K (.ref fa) = true) (hb : Binds X.K fd ps []) (ha : ∀ (pn : List (Addr × Obj)) (xe : Value → Shared → Prop), PA (X.tr pn xe) (e :: es) t)
    (he : starEach (e :: es) X.env = (false, eval e X.env) :: starEach es X.env := by rfl) (hpl : (backTo p3 (starEach es X.env)).any (·.1) = false := by rfl)
    (hw : swapsWith (.Call (.Name f p2) (e :: es) [] p3) (some (.Name y p4)) p5.line X.env = pure false := by rfl) (hw2 : swapsWith (.Name n p6) (some (.Name z p7)) p8.line X.env = pure false := by rfl)
    (hdn : (n == ("__debug__" : Str)) = false := by decide) (hcd : (n == ("__classdict__" : Str)) = false := by decide) (hdb : (f == ("__debug__" : Str)) = false := by decide) :
    PS X (.Try [.Assign [.Name y p4] (.Call (.Name f p2) (e :: es) [] p3) p5] [.ExceptHandler (some (.Name x p1)) (some n) [.Assign [.Name z p7] (.Name n p6) p8] p9] [] [] pos) (tTryK K c j k i sp t) := by
  subst hK
  have h := ps_try_keep (X := X) (np := p1) (pos := pos) (pos' := p9) (i := i) (tb := fun W => tAsg (tCallS sp (WE W) t) (gName j)) (ts := fun _ _ _ => tAsg (tVar i) (gName k)) hs hf hex hN hi hln hc (takes0 (X := X))
    (fun W pn xe tk _ => pss_one (ps_set (X := X.tr pn xe) (pos' := p4) (pos := p5) hN hj (.inl hly) (pe_callS (X := X.tr pn xe) (p := p2) (pos := p3) F hr hg hm hkp hb (fun σ => passAt tk σ) (ha pn xe) hdb he hpl) hw (.inr hly)))
    (fun a oe cls d pn hz hfl => pss_one (ps_set (X := X.suite a ((a, oe) :: pn)) (pos' := p7) (pos := p8) hN hk (.inl hlz) (pe_var (X := X.suite a ((a, oe) :: pn)) (pos := p6) hi hvn hdn hcd) hw2 (.inr hlz)))
  exact h
end L2
namespace Gd
open PySem PySem.Spec PyProof.Rows L2
/-! ### defs that raise -/
section
variable {xc : Xc} {d : Dl} {m : M} {Q : D → M → Prop} {E : De} {aa : TA} {K : PySem.W.Frag}
theorem gs_raise {C : Addr} {X0 : XD} {Ex : XK} (h : X0 (.ref C) none m) : gs ⟨X0, Ex⟩ (tRaise C Ex) E d m := fun sg H s e E' ok => e.xk _ none m H none .refl s trivial h
/-- a call of a def that lets nothing out -/
theorem ge_callC {T : TD} {dvs : List V} {dds : List D} (hd : ∀ ok H, Reps ok H dds dvs) (h : ga xc aa d m fun xs m1 => T (xs ++ dds) m1 Q (fun _ _ _ => False)) : ge xc (tCall (spOf T) dvs E0 aa) d m Q := fun sg H s e Q' k =>
  h sg H s e _ fun vs H1 xs m1 s1 r1 t1 q => ⟨xs ++ dds, m1, Q, fun _ _ _ => False, r1.append (hd _ _), t1, q, fun v H' z m' s2 r2 t2 q2 => k v H' z m' (s1.trans s2) r2 t2 q2, fun _ _ _ _ _ _ _ _ z => z.elim⟩
theorem ge_callC0 {T : TD} (h : ga xc aa d m fun xs m1 => T xs m1 Q (fun _ _ _ => False)) : ge xc (tCall (spOf T) [] E0 aa) d m Q :=
  ge_callC (dds := []) (fun _ _ => .nil) (by
    have e : ∀ xs : List D, xs ++ [] = xs := List.append_nil
    simpa only [e] using h)
/-- the kept exception, by what it carries -/
def kept (c : Value) : Option (List (Str × D)) → D
  | none => .exc c
  | some fs => .excF c (fs.map (·.1)) (fs.map (·.2))
theorem gs_tryK {c : Value} {j k i : Nat} {T : TD} (hik : i ≠ k) (hi : i < d.length) (h : ga xc aa d m fun xs m1 => T xs m1 (fun z m2 => E.nx (d.set j (some z)) m2) (fun cls fs m2 => PySem.W.exmOne K cls c = some true ∧ E.nx ((d.set i none).set k (some (kept cls fs))) m2)) : gs xc (tTryK K c j k i (spOf T) aa) E d m := fun sg H s e E' ok =>
  h sg H s e _ fun vs H1 xs m1 s1 r1 t1 q => by
    refine ⟨xs, m1, _, _, r1, t1, q, fun v H' z m' s2 r2 t2 q2 => ok.nx _ H' _ m' (s1.trans s2) t2 (((e.step s1).step s2).set r2 j) q2, ?_⟩
    intro cls fs m' H' od s2 t2 xf ⟨hm, q2⟩
    refine ⟨true, hm, fun _ a na => ⟨.ref a, List.getElem?_set_self (by rw [← e.len]; exact hi), ?_⟩, fun z => nomatch z⟩
    show E'.nx (((sg.set i (some (V.ref a))).set k (some (V.ref a))).set i none) (upd H' a (EkO cls od a))
    have st : Step m' H' m' (upd H' a (EkO cls od a)) := .fresh na
    have e2 := (((e.step s1).step s2).step st).unset i
    have es : ((sg.set i (some (V.ref a))).set k (some (V.ref a))).set i none = (sg.set i none).set k (some (V.ref a)) := by
      rw [List.set_comm _ _ (Ne.symm hik), List.set_set]
    rw [es]
    refine ok.nx _ _ _ m' ((s1.trans s2).trans st) (t2.fresh na) (e2.set (x := kept cls fs) ?_ k) q2
    cases fs with
    | none =>
      cases od with
      | none => exact .exc (t2.off_new na) upd_same
      | some dx => exact xf.elim
    | some fs =>
      cases od with
      | none => exact xf.elim
      | some dx =>
        obtain ⟨fs', e1, e2⟩ := xf
        obtain ⟨e3, e4⟩ := paired_split e2
        have hd : H' dx = some (.xd ((fs.map (·.1)).zip (fs'.map (·.2)))) := by rw [e1, ← e3]
        have od : off m' dx := fun z => by
          obtain ⟨o, ho⟩ := mem_dom z
          cases o with
          | lst ds => obtain ⟨_, q, _⟩ := t2.all _ ho; rw [e1] at q; cases q
          | ins C fs => obtain ⟨_, _, q, _⟩ := t2.all _ ho; rw [e1] at q; cases q
          | dT kvs => obtain ⟨_, q, _⟩ := t2.all _ ho; rw [e1] at q; cases q
        exact .excF (t2.off_new na) upd_same od (by rw [upd_ne (ne_of_none hd na)]; exact hd) (by simp) (e4.step st)
end
section
variable {P : Program} {w : World} {K : PySem.W.Frag} {mg : Str → Option Value} {base : Heap}
/-- a def that may raise -/
theorem fn_okX {x qual : Str} {st : Stmt} {f : Addr} {fd : FuncData} {N ps : List Str} {k : Nat} {T : TD} {n : Nat} (hn : N.length = n) (F : Fun K x qual st f fd) (S : FnScope N ps (defScope st)) (len : ∀ ds m Q X0, T ds m Q X0 → ds.length = ps.length)
    (hbody : ∀ (cdv : Value) (A : Around) (outer : List Env) (s : Shared) (H : Hp) (E : XK), Room k (A.deeper (envOfC qual (defScope st) s.heap.objs.size f cdv)) →
      ∃ t, PSs (cxOf (L2.CX P w) P w K mg base N qual (defScope st) f cdv A outer s H E) (defBody st) t ∧ ∀ ds m Q X0, T ds m Q X0 → gs ⟨X0, E⟩ t { nx := fun _ m' => Q .non m', rt := Q } (startD n ds) m) : FnOk P w K mg base (L2.CX P w) (k + 1) f fd ps (spOf T) := by
  subst hn
  refine F.okX S (fun vs H Q E ⟨ds, m, Q0, X0, r, t, h, _⟩ => by rw [← r.length]; exact len _ _ _ _ h) fun cdv A outer s H vs Q E hr ⟨ds, m, Q0, X0, r, t, h, hq, hx⟩ => ?_
  obtain ⟨tm, pt, hg⟩ := hbody cdv A outer s H E hr
  refine ⟨tm, pt, hg ds m Q0 X0 h (L2.start N vs) H t (esat_start r hx) _ ⟨fun sg' H' d' m' s1 t1 e1 q => hq _ H' _ m' s1 .non t1 q, fun v H' z m' s1 r1 t1 q => hq v H' z m' s1 r1 t1 q, fun _ _ _ _ _ _ _ q => q.elim, fun _ _ _ _ _ _ _ q => q.elim⟩⟩
theorem fn_okDX {x qual : Str} {params : Arguments} {body : List Stmt} {scope : Scope} {dvs : List V} {kws : List (Str × V)} {f : Addr} {fd : FuncData} {N ps : List Str} {k : Nat} {T : TD} {n : Nat} (hn : N.length = n) (F : FunD K x qual params body scope dvs kws f fd) (S : FnScope N ps scope) (len : ∀ ds m Q X0, T ds m Q X0 → ds.length = ps.length)
    (hbody : ∀ (cdv : Value) (A : Around) (outer : List Env) (s : Shared) (H : Hp) (E : XK), Room k (A.deeper (envOfC qual scope s.heap.objs.size f cdv)) →
      ∃ t, PSs (cxOf (L2.CX P w) P w K mg base N qual scope f cdv A outer s H E) body t ∧ ∀ ds m Q X0, T ds m Q X0 → gs ⟨X0, E⟩ t { nx := fun _ m' => Q .non m', rt := Q } (startD n ds) m) : FnOk P w K mg base (L2.CX P w) (k + 1) f fd ps (spOf T) := by
  subst hn
  refine F.ok S (fun vs H Q E ⟨ds, m, Q0, X0, r, t, h, _⟩ => by rw [← r.length]; exact len _ _ _ _ h) fun cdv A outer s H vs Q E hr ⟨ds, m, Q0, X0, r, t, h, hq, hx⟩ => ?_
  obtain ⟨tm, pt, hg⟩ := hbody cdv A outer s H E hr
  refine ⟨tm, pt, hg ds m Q0 X0 h (L2.start N vs) H t (esat_start r hx) _ ⟨fun sg' H' d' m' s1 t1 e1 q => hq _ H' _ m' s1 .non t1 q, fun v H' z m' s1 r1 t1 q => hq v H' z m' s1 r1 t1 q, fun _ _ _ _ _ _ _ q => q.elim, fun _ _ _ _ _ _ _ q => q.elim⟩⟩
theorem passX {P : Program} {w : World} {K : PySem.W.Frag} {mg : Str → Option Value} {base : Heap} {N : List Str} {qual : Str} {scope : Scope} {f : Addr} {cd : Value} {A : Around} {outer : List Env} {s : Shared} {H : Hp} {E : XK} :
    Passes (L2.CX P w) (cxOf (L2.CX P w) P w K mg base N qual scope f cd A outer s H E) E := passes_call (takes_of (E := E) rfl rfl rfl rfl) fun _ _ _ _ h => h
end
end Gd

namespace Gd
open PySem PySem.Spec PyProof.Rows L2
/-! ### texts -/
theorem strOk_of (s : String) : PyData.strOk (Str.ofString s) = true := by
  unfold PyData.strOk
  rw [Str.ofString_eq_toList]
  rw [List.all_toArray, List.all_eq_true]
  intro n hn
  obtain ⟨c, _, rfl⟩ := List.mem_map.mp hn
  have h := c.valid
  have h' : c.toNat < 0xd800 ∨ (0xdfff < c.toNat ∧ c.toNat < 0x110000) := h
  exact decide_eq_true (by omega)
theorem cps_app (a b : Str) : (a ++ b).cps = a.cps ++ b.cps := rfl
theorem strOk_app {a b : Str} (ha : PyData.strOk a = true) (hb : PyData.strOk b = true) : PyData.strOk (a ++ b) = true := by
  unfold PyData.strOk at *
  rw [cps_app, Array.all_append, ha, hb]
  rfl
theorem strOk_empty : PyData.strOk Str.empty = true := by decide +kernel
theorem len_app (a b : Str) : (a ++ b).length = a.length + b.length := by
  show (a.cps ++ b.cps).size = a.cps.size + b.cps.size
  exact Array.size_append
theorem app_assoc (a b c : Str) : a ++ b ++ c = a ++ (b ++ c) := by
  show Str.mk (a.cps ++ b.cps ++ c.cps) = Str.mk (a.cps ++ (b.cps ++ c.cps))
  rw [Array.append_assoc]
theorem int_len {i : Int} {n : Nat} (h : i.natAbs ≤ n) : (Str.ofString (toString i)).length ≤ n + 2 := by
  have := len_str_of_int i
  omega
theorem log_small {i : Int} (h : i.natAbs ≤ 4000000) : i.natAbs.log2 < 1920 := by
  by_cases z : i.natAbs = 0
  · rw [z]; decide
  · refine Nat.lt_of_lt_of_le (show i.natAbs.log2 < 32 from (Nat.log2_lt z).mpr (Nat.lt_of_le_of_lt h (by decide))) (by decide)
theorem shStr {n : Nat} {x : Str} (h : PyData.strOk x = true) : Sh n (.str x) := .str n x (by simp only [PyData.canLay0]; exact h)
section
variable {xc : Xc} {ts : List TE} {acc : Str} {d : Dl} {m : M} {Q : Str → M → Prop}
theorem gj_nil (q : Q acc m) : gj xc [] acc d m Q := q
theorem gj_str {z : Str} (n : Nat) (h : acc.length ≤ n) (hn : n ≤ 14000000) (hz : z.length ≤ 1000) (q : (acc ++ z).length ≤ n + 1000 → gj xc ts (acc ++ z) d m Q) : gj xc (tC (.str z) :: ts) acc d m Q := by
  have hl : (acc ++ z).length ≤ n + 1000 := by rw [len_app]; omega
  exact ge_str ⟨z, rfl, Nat.le_trans hl (Nat.le_trans (Nat.add_le_add_right hn _) (by decide)), q hl⟩
theorem gj_int {te : TE} (n : Nat) (h : acc.length ≤ n) (hn : n ≤ 12000000) (q : ge xc te d m fun x m1 => ∃ i : Int, x = .int i ∧ (-4000000 ≤ i ∧ i ≤ 4000000) ∧ ((acc ++ (toString i : Str)).length ≤ n + 4000002 → gj xc ts (acc ++ (toString i : Str)) d m1 Q)) : gj xc (tFmt te :: ts) acc d m Q :=
  ge_fmtI (q.mono fun x m1 ⟨i, hi, hb, q⟩ => by
    have ha : i.natAbs ≤ 4000000 := by omega
    have hl : (acc ++ (toString i : Str)).length ≤ n + 4000002 := by
      rw [len_app]
      have := int_len ha
      omega
    exact ⟨i, hi, log_small ha, _, rfl, Nat.le_trans hl (Nat.le_trans (Nat.add_le_add_right hn _) (by decide)), q hl⟩)
end
theorem runT_ok (b e s : Int) : PyData.strOk (runT b e s) = true := by
  unfold runT
  exact strOk_app (strOk_app (strOk_app (strOk_app (strOk_app (strOk_app (strOk_app strOk_empty (strOk_of _)) (strOk_of _)) (strOk_of _)) (strOk_of _)) (strOk_of _)) (strOk_of _)) (strOk_of _)
theorem runT_zero : runT 0 0 1 = Str.ofString "Run(0, 0, 1)" := by decide +kernel
theorem runT_one (a : Int) : Str.empty ++ "Run(" ++ toString a ++ ", " ++ toString (a + 1) ++ ", 1)" = runT a (a + 1) 1 := by
  unfold runT
  generalize Str.empty ++ Str.ofString "Run(" ++ Str.ofString (toString a) ++ Str.ofString ", " ++ Str.ofString (toString (a + 1)) = z
  rw [app_assoc _ (Str.ofString (toString (1 : Int))), app_assoc z (Str.ofString ", "), show ((", " : Str) ++ ((Str.ofString (toString (1 : Int))) ++ (")" : Str))) = (", 1)" : Str) from by decide +kernel]
/-- what is taken of a span's numbers -/
theorem taken_span {S : Spn} {c : Cut} (hn : 0 ≤ S.2.2) (hc : CutOk c) : takenM (spanL S) c = spanL (stepM S c) := by
  unfold takenM
  have hl : ((spanL S).length : Int) = S.2.2 := by rw [spanL_len]; omega
  rw [hl, step_list hn hc]
theorem taken_mem {ns : List Int} {c : Cut} (hc : CutOk c) : ∀ x ∈ takenM ns c, x ∈ ns := fun x hx => by
  unfold takenM at hx
  obtain ⟨i, hi, e⟩ := List.mem_map.mp hx
  obtain ⟨h0, h1⟩ := (span_in hc (show (0 : Int) ≤ ns.length by omega)).all i hi
  have hlt : i.toNat < ns.length := by omega
  rw [← e, List.getD_eq_getElem?_getD, List.getElem?_eq_getElem hlt]
  exact List.getElem_mem hlt
theorem endM_b {S : Spn} (h : RunC S) : -4000000 ≤ endM S ∧ endM S ≤ 4000000 := by
  unfold endM
  split
  · decide
  · rename_i z
    have hn := h.n0
    have := h.all (S.1 + S.2.1 * ((S.2.2.toNat - 1 : Nat) : Int)) (spanL_mem.mpr ⟨_, by omega, rfl⟩)
    rw [show (((S.2.2.toNat - 1 : Nat)) : Int) = S.2.2 - 1 by omega] at this
    split <;> omega
theorem RunC.step {S : Spn} {c : Cut} (h : RunC S) (hc : CutOk c) (hz : (stepM S c).2.1 ≠ 0) : RunC (stepM S c) := by
  have hn := h.n0
  have hl : (stepM S c).2.2 ≤ 200 := by
    have e := comp_n (s := S) (span_in hc hn).n0
    have := (span_in hc hn).nl
    have := h.n1
    unfold stepM
    omega
  exact RunC.of_nf (plain_nf _ _ _) hz hl fun x hx => h.all x (taken_mem hc x (by rw [taken_span hn hc]; exact hx))
theorem step_nz {S : Spn} {c : Cut} (hz : S.2.1 ≠ 0) (hn : 0 ≤ S.2.2) (hc : CutOk c) : (stepM S c).2.1 ≠ 0 := by
  unfold stepM comp
  have h := (span_in hc hn)
  have hs : (spanM c S.2.2).2.1 ≠ 0 := h.nz
  by_cases z : (spanM c S.2.2).2.2 < 1
  · rw [plain_zero _ _ z]; show (1 : Int) ≠ 0; decide
  · rw [plain_pos _ _ (by omega)]
    show (if 1 < (spanM c S.2.2).2.2 then S.2.1 * (spanM c S.2.2).2.1 else 1) ≠ 0
    split
    · exact Int.mul_ne_zero hz hs
    · decide
theorem cutOk_one : CutOk (none, none, some 1) := ⟨(fun i e => by cases e), (fun i e => by cases e), (fun i e => by cases e; decide), (fun e => by cases e)⟩
theorem taken_one (ns : List Int) : takenM ns (none, none, some 1) = ns := taken_all ns
end Gd

namespace Gd
open PySem PySem.Spec PyProof.Rows L2
/-! ### refusals by their class -/
inductive Kit (K : PySem.W.Frag) (C : Addr) : List (Addr × Bool) → Prop
  | nil : Kit K C []
  | cons {D : Addr} {b : Bool} {r : List (Addr × Bool)} : PySem.W.kitOne K (.ref C) (.ref D) = some b → Kit K C r → Kit K C ((D, b) :: r)
structure ExWord (K : PySem.W.Frag) (CE : Addr) (L : List (Addr × Bool)) (C : Addr) : Prop where
  c : ExcC K C
  ix : PySem.W.kitOne K (.ref C) (.type "IndexError") = some true
  kit : Kit K C L
  em : PySem.W.exmOne K (.ref C) (.ref CE) = some true
abbrev flags (j : Nat) : List Bool := [decide (0 = j), decide (1 = j), decide (2 = j), decide (3 = j), decide (4 = j), decide (5 = j), decide (6 = j), decide (7 = j), decide (8 = j), decide (9 = j), decide (10 = j)]
section
variable {xc : Xc} {d : Dl} {m : M} {Q : D → M → Prop} {ta te : TE} {K : PySem.W.Frag} {C D' : Addr} {b : Bool}
theorem gc_isK (c : ExcC K C) (h : PySem.W.kitOne K (.ref C) (.ref D') = some b) (q : Q (.bl b) m) : gc (rIsK K) [.exc (.ref C), .ref D'] m Q := fun H vs s r Q' k => by
  cases r with | cons r1 r2 =>
  cases r2 with | cons r2 r3 =>
  cases r3
  obtain ⟨a, rfl, oa, ea⟩ := r1.exc_inv
  rw [r2.ref_inv]
  exact ⟨a, C, .ref D', .ref D', b, rfl, ea, c, fun u hu => hu, h, k _ H _ m .refl (.bl _) s q⟩
theorem gc_isKT {n : String} (c : ExcC K C) (h : PySem.W.kitOne K (.ref C) (.type n) = some b) (q : Q (.bl b) m) : gc (rIsK K) [.exc (.ref C), .ty n] m Q := fun H vs s r Q' k => by
  cases r with | cons r1 r2 =>
  cases r2 with | cons r2 r3 =>
  cases r3
  obtain ⟨a, rfl, oa, ea⟩ := r1.exc_inv
  rw [r2.ty_inv]
  exact ⟨a, C, .ty n, .type n, b, rfl, ea, c, fun u hu => hu, h, k _ H _ m .refl (.bl _) s q⟩
theorem Reps.cnt {ok : Addr → Prop} {H : Hp} {y : D} {w : V} (ry : Rep ok H y w) (fy : flatD y = true) : ∀ {ds : List D} {vs : List V}, Reps ok H ds vs → ds.all flatD = true → vs.countP (fun z => L2.eqV z w) = ds.countP (fun z => deq z y)
  | _, _, .nil, _ => rfl
  | _, _, .cons r t, f => by
    rw [List.all_cons, Bool.and_eq_true] at f
    rw [List.countP_cons, List.countP_cons, Reps.cnt ry fy t f.2, r.eqV ry f.1 fy]
theorem ge_count (h : ge xc ta d m fun o m1 => ∃ ds, o = .lst ds ∧ ds.all flatD = true ∧ ge xc te d m1 fun y m2 => flatD y = true ∧ Q (.int (ds.countP (fun z => deq z y) : Nat)) m2) : ge xc (tBM K "list" (rCntF K) ta (tCons te tNil)) d m Q := fun sg H s e Q' k =>
  h sg H s e _ fun vo H1 o m1 s1 r1 t1 ⟨ds, ho, hf, q⟩ => by
    subst ho
    obtain ⟨a, us, rfl, oa, ea, ra⟩ := r1.lst_inv
    refine ⟨.inl ⟨rfl, us, .inl (.inl ea)⟩, q sg H1 t1 (e.step s1) _ fun vy H2 y m2 s2 r2 t2 ⟨fy, q2⟩ => ?_⟩
    have ea' := (s2.h2 a _ oa ea).2
    have ra' := ra.step s2
    refine ⟨a, us, vy, rfl, rfl, .inl (.inl ea'), r2.flat fy, (ra'.inV r2 fy hf).1, ?_⟩
    rw [Reps.cnt r2 fy ra' hf]
    exact k _ H2 _ m2 (s1.trans s2) (.int _) t2 q2
end
theorem ge_dnew {xc : Xc} {d : Dl} {m : M} {Q : D → M → Prop} (q : Q .dct m) : ge xc tDNewK d m Q := fun sg H s e Q' k p np => k _ _ .dct m (.fresh np) (.dct (s.off_new np) upd_same) (s.fresh np) q
/-! ### what is a cut, a length, a list of cuts -/
theorem isNum_inv {x : D} {lo hi : Int} (h : isNum x lo hi = true) : ∃ i, x = .int i ∧ lo ≤ i ∧ i ≤ hi := by
  cases x with
  | int i =>
    have h : (decide (lo ≤ i) && decide (i ≤ hi)) = true := h
    rw [Bool.and_eq_true] at h
    exact ⟨i, rfl, of_decide_eq_true h.1, of_decide_eq_true h.2⟩
  | _ => all_goals cases h
theorem isNum_of {i lo hi : Int} (h1 : lo ≤ i) (h2 : i ≤ hi) : isNum (.int i) lo hi = true := by
  show (decide (lo ≤ i) && decide (i ≤ hi)) = true
  rw [decide_eq_true h1, decide_eq_true h2]; rfl
theorem isNum_no {i lo hi : Int} (h : ¬ (lo ≤ i ∧ i ≤ hi)) : isNum (.int i) lo hi = false := by
  show (decide (lo ≤ i) && decide (i ≤ hi)) = false
  by_cases h1 : lo ≤ i
  · rw [decide_eq_false (fun h2 => h ⟨h1, h2⟩), Bool.and_false]
  · rw [decide_eq_false h1]; rfl
theorem isEdge_inv {x : D} (h : isEdge x = true) : ∃ o, x = oi o ∧ OiOk o := by
  unfold isEdge at h
  rcases Bool.or_eq_true _ _ ▸ h with h | h
  · cases x with
    | non => exact ⟨none, rfl, fun i e => by cases e⟩
    | _ => all_goals cases h
  · obtain ⟨i, rfl, h1, h2⟩ := isNum_inv h
    exact ⟨some i, rfl, fun j e => by cases e; exact ⟨h1, h2⟩⟩
theorem isCut_inv {x : D} (h : isCut x = true) : ∃ c, x = cutD c ∧ CutOk c := by
  cases x with
  | tup es =>
    match es, h with
    | [a, b, c], h =>
      have h : (isEdge a && (isEdge b && (isEdge c && (isN c || !deq c (.int 0))))) = true := h
      simp only [Bool.and_eq_true] at h
      obtain ⟨h1, h2, h3, h4⟩ := h
      obtain ⟨o1, rfl, k1⟩ := isEdge_inv h1
      obtain ⟨o2, rfl, k2⟩ := isEdge_inv h2
      obtain ⟨o3, rfl, k3⟩ := isEdge_inv h3
      refine ⟨(o1, o2, o3), rfl, k1, k2, k3, fun e => ?_⟩
      have e : o3 = some 0 := e
      subst e
      cases h4
    | [], h => cases h
    | [_], h => cases h
    | [_, _], h => cases h
    | _ :: _ :: _ :: _ :: _, h => cases h
  | _ => all_goals cases h
def isCuts (n : Nat) : D → Bool
  | .lst xs => decide (xs.length ≤ n) && xs.all isCut
  | _ => false
theorem allCut_inv : ∀ {xs : List D}, xs.all isCut = true → ∃ cs : List Cut, xs = cs.map cutD ∧ ∀ c ∈ cs, CutOk c
  | [], _ => ⟨[], rfl, fun c hc => by cases hc⟩
  | x :: xs, h => by
    rw [List.all_cons, Bool.and_eq_true] at h
    obtain ⟨c, rfl, hc⟩ := isCut_inv h.1
    obtain ⟨cs, rfl, hcs⟩ := allCut_inv h.2
    refine ⟨c :: cs, rfl, fun k hk => ?_⟩
    rcases List.mem_cons.mp hk with e | hk
    · rw [e]; exact hc
    · exact hcs k hk
theorem isCuts_inv {n : Nat} {x : D} (h : isCuts n x = true) : ∃ cs : List Cut, x = chainD cs ∧ cs.length ≤ n ∧ ∀ c ∈ cs, CutOk c := by
  cases x with
  | lst xs =>
    have h : (decide (xs.length ≤ n) && xs.all isCut) = true := h
    rw [Bool.and_eq_true] at h
    obtain ⟨cs, rfl, hcs⟩ := allCut_inv h.2
    exact ⟨cs, rfl, by have := of_decide_eq_true h.1; rwa [List.length_map] at this, hcs⟩
  | _ => all_goals cases h
theorem isCuts_of {n : Nat} {cs : List Cut} (h1 : cs.length ≤ n) (h : ∀ c ∈ cs, CutOk c) : isCuts n (chainD cs) = true := by
  show (decide ((cs.map cutD).length ≤ n) && (cs.map cutD).all isCut) = true
  rw [List.length_map, decide_eq_true h1, Bool.true_and, List.all_eq_true]
  intro x hx
  obtain ⟨c, hc, rfl⟩ := List.mem_map.mp hx
  exact (h c hc).is
theorem isChain_eq (x : D) : isChain x = isCuts 6 x := by cases x <;> rfl
theorem all_whole_inv : ∀ {xs : List D}, Shs 59 xs → xs.all whole = true → ∃ ns : List Int, xs = ns.map D.int
  | [], _, _ => ⟨[], rfl⟩
  | x :: xs, .cons hx hs, h => by
    rw [List.all_cons, Bool.and_eq_true] at h
    obtain ⟨ns, rfl⟩ := all_whole_inv hs h.2
    have h1 : (isInt x && !isBool x) = true := h.1
    rw [Bool.and_eq_true] at h1
    cases x with
    | int i => exact ⟨i :: ns, rfl⟩
    | bl b => cases h1.2
    | _ => all_goals cases h1.1
theorem isRow_inv {x : D} (a : Arg x) (h : isRow x = true) : ∃ ns : List Int, x = intsD ns ∧ ns.length ≤ 200 := by
  cases x with
  | lst es =>
    have hes : Shs 59 es := by
      rcases a with a | a
      · cases a with | lst h => exact h
      · cases a
    have h : (decide (es.length ≤ 200) && es.all whole) = true := h
    rw [Bool.and_eq_true] at h
    obtain ⟨ns, rfl⟩ := all_whole_inv hes h.2
    exact ⟨ns, rfl, by have := of_decide_eq_true h.1; rwa [List.length_map] at this⟩
  | _ => all_goals cases h
/-! ### what a deed tells, or its refusal -/
abbrev sFound : Str := "found"
abbrev sRefused : Str := "refused"
abbrev foundD (z : D) : D := .tup [.str sFound, z]
abbrev refD (j : Nat) : D := .tup [.str sRefused, .int (j : Int)]
def Told (T1 : TD) (K : PySem.W.Frag) (CE : Addr) (exL : List Addr) (ds : List D) (m : M) (Q : D → M → Prop) : Prop := ∀ Q1 X1, (∀ z m', Q (foundD z) m' → Q1 z m') → (∀ C j m', j < 11 → ExWord K CE (exL.zip (flags j)) C → Q (refD j) m' → X1 (.ref C) none m') → T1 ds m Q1 X1
theorem shFound {n : Nat} {z : D} (h : Sh n z) : Sh (n + 1) (foundD z) := .tup (.cons (shStr (strOk_of _)) (.cons h (.nil _)))
theorem shRef {n : Nat} (j : Nat) : Sh (n + 1) (refD j) := .tup (.cons (shStr (strOk_of _)) (.cons (.int _ _) (.nil _)))
theorem deq_refs (i j : Nat) : deq (refD i) (refD j) = decide (i = j) := by
  have e1 : PyData.eqv (.str sRefused) (.str sRefused) = true := by decide +kernel
  have e : deq (refD i) (refD j) = (PyData.eqv (.str sRefused) (.str sRefused) && (PyData.eqv (.int (i : Int)) (.int (j : Int)) && true)) := rfl
  rw [e, e1, Bool.true_and, Bool.and_true]
  show ((i : Int) == (j : Int)) = decide (i = j)
  rw [Bool.beq_eq_decide_eq]
  exact decide_eq_decide.mpr (by omega)
theorem deq_fr (z : D) (j : Nat) : deq (foundD z) (refD j) = false := by
  have e1 : PyData.eqv (.str sFound) (.str sRefused) = false := by decide +kernel
  have e : deq (foundD z) (refD j) = (PyData.eqv (.str sFound) (.str sRefused) && (PyData.eqv (toPy z) (.int (j : Int)) && true)) := rfl
  rw [e, e1]; rfl
end Gd
namespace Gd
open PySem PySem.Spec PyProof.Rows L2
theorem perm_sorted : ∀ {xs ys : List Int}, xs.Perm ys → xs.Pairwise (· ≤ ·) → ys.Pairwise (· ≤ ·) → xs = ys
  | [], ys, h, _, _ => (List.Perm.nil_eq h)
  | x :: xs, [], h, _, _ => absurd h.length_eq (by simp)
  | x :: xs, y :: ys, h, hx, hy => by
    have h1 : x ∈ y :: ys := h.mem_iff.mp List.mem_cons_self
    have h2 : y ∈ x :: xs := h.mem_iff.mpr List.mem_cons_self
    have hx1 := List.pairwise_cons.mp hx
    have hy1 := List.pairwise_cons.mp hy
    have e : x = y := by
      rcases List.mem_cons.mp h1 with e | h1
      · exact e
      · rcases List.mem_cons.mp h2 with e | h2
        · exact e.symm
        · have := hx1.1 y h2
          have := hy1.1 x h1
          omega
    subst e
    rw [perm_sorted h.cons_inv hx1.2 hy1.2]
theorem cutL_mem {α : Type} {xs : List α} {lo hi : Option Int} {x : α} (h : x ∈ cutL xs lo hi) : x ∈ xs := List.mem_of_mem_drop (List.mem_of_mem_take h)
theorem cutL_len {α : Type} (xs : List α) (lo hi : Option Int) : (cutL xs lo hi).length ≤ xs.length := by
  unfold cutL
  rw [List.length_take, List.length_drop]
  omega
theorem deq_bls (a b : Bool) : deq (.bl a) (.bl b) = (a == b) := by cases a <;> cases b <;> rfl
theorem spanL_empty {s : Spn} (h : 0 ≤ s.2.2) : (spanL s).isEmpty = decide (s.2.2 = 0) := by
  have hl := spanL_len s
  cases e : spanL s with
  | nil =>
    rw [e] at hl
    have hl : 0 = s.2.2.toNat := hl
    rw [decide_eq_true (show s.2.2 = 0 by omega)]
    rfl
  | cons x xs =>
    rw [e, List.length_cons] at hl
    rw [decide_eq_false (show ¬ s.2.2 = 0 by omega)]
    rfl
theorem flat_len {l : Int} (h1 : 0 ≤ l) (h2 : l ≤ 200) : ∀ xs : List Cut, (∀ c ∈ xs, CutOk c) → (xs.flatMap fun c => spanL (spanM c l)).length ≤ 200 * xs.length := by
  intro xs
  induction xs with
  | nil => intro _; simp
  | cons x xs ih =>
    intro hx
    have h3 := (span_in (hx x List.mem_cons_self) h1).nl
    have h4 := ih fun c hc => hx c (List.mem_cons_of_mem _ hc)
    rw [List.flatMap_cons, List.length_append, spanL_len, List.length_cons]
    omega
end Gd

namespace Gd
open PySem PySem.Spec PyProof.Rows L2
/-! ### tuples: slices, sums -/
theorem kSlA {X : Cx} (K : PySem.W.Frag) (h : X.K = K := by rfl) : SlR X (rSlA K) := by subst h; exact sl_tupA
theorem kCatA {X : Cx} (K : PySem.W.Frag) (h : X.K = K := by rfl) : OpR X (binaryOp .Add) (rCatA K) := by subst h; exact op_catA
section
variable {xc : Xc} {d : Dl} {m : M} {Q : D → M → Prop} {K : PySem.W.Frag} {aa : TA} {ta : TE}
theorem gsl_A {ds : List D} {lo hi : Option Int} (q : Q (.tup (cutL ds lo hi)) m) : gsl (rSlA K) (.tup ds) lo hi m Q := fun H vx s r1 Q' k => by
  obtain ⟨a, us, rfl, ea, ra⟩ := r1.tup_inv
  refine ⟨a, us, rfl, .inl (.inl ea), fun hw => ?_, fun hw p np => ?_⟩
  · have e : cutL ds lo hi = ds := by
      unfold cutL
      rw [ra.length, hw.1, hw.2, List.drop_zero, Nat.sub_zero, List.take_of_length_le (by rw [ra.length]; exact Nat.le_refl _)]
    rw [e] at q
    exact k _ H (.tup ds) m .refl (.tup ea ra) s q
  · exact k _ _ (.tup (cutL ds lo hi)) m (.fresh np) (.tup upd_same ((cutV_reps ra).step (.fresh np))) (s.fresh np) q
theorem g2_catA {xs ys : List D} (h : xs.length + ys.length ≤ 100000) (q : Q (.tup (xs ++ ys)) m) : g2 (rCatA K) (.tup xs) (.tup ys) m Q := fun H vx vy s r1 r2 Q' k => by
  obtain ⟨a, us, rfl, ea, ra⟩ := r1.tup_inv
  obtain ⟨b, vs, rfl, eb, rb⟩ := r2.tup_inv
  refine ⟨a, b, us, vs, rfl, rfl, .inl (.inl ea), .inl (.inl eb), by rw [← ra.length, ← rb.length]; exact Nat.le_trans h (by decide), fun z => ?_, fun _ z => ?_, fun _ _ p np => ?_⟩
  · subst z
    have e : xs = [] := List.eq_nil_of_length_eq_zero ra.length
    subst e
    exact k _ H (.tup ys) m .refl (.tup eb rb) s q
  · subst z
    have e : ys = [] := List.eq_nil_of_length_eq_zero rb.length
    subst e
    rw [List.append_nil] at q
    exact k _ H (.tup xs) m .refl (.tup ea ra) s q
  · exact k _ _ (.tup (xs ++ ys)) m (.fresh np) (.tup upd_same ((ra.append rb).step (.fresh np))) (s.fresh np) q
/-! ### in a def that raises: makings and methods that let nothing out -/
theorem ge_makeC {C : Addr} {T : TD} {dvs : List V} {dds : List D} (hd : ∀ ok H, Reps ok H dds dvs) (h : ga xc aa d m fun xs m1 => ∀ x, x ∉ dom m1 → T (.ref x :: (xs ++ dds)) ((x, .ins C []) :: m1) (fun v m2 => v = .non ∧ Q (.ref x) m2) (fun _ _ _ => False)) : ge xc (tMake C (spOf T) dvs E0 aa) d m Q := fun sg H s e Q' k =>
  h sg H s e _ fun vs H1 xs m1 s1 r1 t1 q => by
    intro x dx nx ndx hne
    have f1 : Step m1 H1 m1 (upd H1 dx (.own x)) := .fresh ndx
    have nx1 : (upd H1 dx (.own x)) x = none := by rw [upd_ne (Ne.symm hne)]; exact nx
    have t2 := t1.fresh (o := .own x) ndx
    have f2 : Step m1 (upd H1 dx (.own x)) ((x, .ins C []) :: m1) (upd (upd H1 dx (.own x)) x (.ins C dx [])) := .cell nx1
    have f12 := f1.trans f2
    have t3 : MSat ((x, .ins C []) :: m1) (upd (upd H1 dx (.own x)) x (.ins C dx [])) := by
      refine ⟨List.nodup_cons.mpr ⟨t1.off_new nx, t1.nd⟩, fun p hp => ?_⟩
      rcases List.mem_cons.mp hp with e | h
      · subst e
        exact ⟨dx, [], upd_same, .nil⟩
      · obtain ⟨u, eu⟩ := (t2.all p h).there
        exact (t2.all p h).mono f2.tups f2.h2 (upd_ne (ne_of_none eu nx1))
    refine ⟨.ref x :: (xs ++ dds), _, _, fun _ _ _ => False, .cons (.ref x) ((r1.step f12).append (hd _ _)), t3, q x (t1.off_new nx), fun v H' z m' s2 r2 t4 ⟨hz, q2⟩ => ⟨?_, ?_⟩, fun _ _ _ _ _ _ _ _ z => z.elim⟩
    · subst hz
      exact r2.non_inv
    · exact k (.ref x) H' (.ref x) m' ((s1.trans f12).trans s2) (.ref x) t4 q2
theorem ge_methC {C : Addr} {T : TD} {dvs : List V} {dds : List D} {mn : Str} (hd : ∀ ok H, Reps ok H dds dvs) (h : ge xc ta d m fun x m1 => ObjAt C m1 x mn ∧ ga xc aa d m1 fun xs m2 => T (x :: (xs ++ dds)) m2 Q (fun _ _ _ => False)) : ge xc (tMeth C mn (spOf T) dvs E0 ta aa) d m Q := fun sg H s e Q' k =>
  h sg H s e _ fun v H1 x m1 s1 r1 t1 ⟨ho, q⟩ => by
    have fin : aa sg H1 fun vs H2 => (spOf T) (v :: (vs ++ dvs)) H2 Q' E0 := q sg H1 t1 (e.step s1) _ fun vs H2 xs m2 s2 r2 t2 q2 =>
      ⟨x :: (xs ++ dds), m2, Q, fun _ _ _ => False, .cons (r1.step s2) (r2.append (hd _ _)), t2, q2, fun w H' z m' s3 r3 t3 q3 => k w H' z m' ((s1.trans s2).trans s3) r3 t3 q3, fun _ _ _ _ _ _ _ _ z => z.elim⟩
    rcases ho with ⟨ns, ds, rfl, hl⟩ | ⟨a, j, fs, rfl, hm, hl⟩
    · obtain ⟨a, dx, xs, rfl, oa, ea, l, ra⟩ := r1.obj_inv
      exact ⟨a, dx, _, rfl, ea, paired_none (paired_zip l ra) hl, fin⟩
    · obtain ⟨dx, fs', ea, ra⟩ := t1.get hm
      have er := r1.ref_inv
      subst er
      exact ⟨a, dx, fs', rfl, ea, paired_none ra hl, fin⟩
theorem ge_methC0 {C : Addr} {T : TD} {mn : Str} (h : ge xc ta d m fun x m1 => ObjAt C m1 x mn ∧ ga xc aa d m1 fun xs m2 => T (x :: xs) m2 Q (fun _ _ _ => False)) : ge xc (tMeth C mn (spOf T) [] E0 ta aa) d m Q :=
  ge_methC (dds := []) (fun _ _ => .nil) (by
    have e : ∀ xs : List D, xs ++ [] = xs := List.append_nil
    simpa only [e] using h)
theorem ge_makeC0 {C : Addr} {T : TD} (h : ga xc aa d m fun xs m1 => ∀ x, x ∉ dom m1 → T (.ref x :: xs) ((x, .ins C []) :: m1) (fun v m2 => v = .non ∧ Q (.ref x) m2) (fun _ _ _ => False)) : ge xc (tMake C (spOf T) [] E0 aa) d m Q :=
  ge_makeC (dds := []) (fun _ _ => .nil) (by
    have e : ∀ xs : List D, xs ++ [] = xs := List.append_nil
    simpa only [e] using h)
/-! ### numbers as texts -/
theorem gc_strI {i : Int} (h : i.natAbs.log2 < 1920) (q : Q (.str (toString i)) m) : gc (fun xs H Q => ∃ i : Int, xs = [.int i] ∧ i.natAbs.log2 < 1920 ∧ Q (.str (toString i)) H) [.int i] m Q := fun H vs s r Q' k => by
  cases r with | cons r1 r2 =>
  cases r2
  rw [r1.int_inv]
  exact ⟨i, rfl, h, k _ H _ m .refl (.str _) s q⟩
end
theorem log_big {i : Int} (h : -1000000000 ≤ i ∧ i ≤ 1000000000) : i.natAbs.log2 < 1920 := by
  by_cases z : i.natAbs = 0
  · rw [z]; decide
  · refine Nat.lt_of_lt_of_le (show i.natAbs.log2 < 32 from (Nat.log2_lt z).mpr (by omega)) (by decide)
theorem int_len9 {i : Int} (h : -1000000000 ≤ i ∧ i ≤ 1000000000) : (Str.ofString (toString i)).length ≤ 12 := by
  cases i with
  | ofNat n =>
    have := toString_length_le (v := (n : Int)) (k := 10) (by omega) (by decide) (by have : (n : Int) ≤ 1000000000 := h.2; show (n : Int) < 10000000000; omega)
    exact Nat.le_trans this (by decide)
  | negSucc n =>
    have h2 : ((n : Int) + 1) ≤ 1000000000 := by have := h.1; omega
    have := toString_length_le (v := ((n + 1 : Nat) : Int)) (k := 10) (by omega) (by decide) (by show ((n + 1 : Nat) : Int) < 10000000000; omega)
    rw [ofString_len] at this ⊢
    have e : toString (Int.negSucc n) = "-" ++ toString ((n + 1 : Nat) : Int) := rfl
    rw [e, String.length_append]
    have h1 : "-".length = 1 := by decide
    omega
def edgeT : Option Int → Str
  | none => Str.ofString ""
  | some i => Str.ofString (toString i)
def writtenM (c : Cut) : Str := match c.2.2 with
  | none => edgeT c.1 ++ (Str.ofString ":") ++ edgeT c.2.1
  | some s => edgeT c.1 ++ (Str.ofString ":") ++ edgeT c.2.1 ++ (Str.ofString ":") ++ edgeT (some s)
theorem edgeT_len {o : Option Int} (h : OiOk o) : (edgeT o).length ≤ 12 := by
  cases o with
  | none => exact (by decide +kernel : (Str.ofString "").length ≤ 12)
  | some i => exact int_len9 (h i rfl)
theorem colon_len : (Str.ofString ":").length = 1 := by decide +kernel
theorem writtenM_len {c : Cut} (h : CutOk c) : (writtenM c).length ≤ 38 := by
  have h1 := edgeT_len h.b
  have h2 := edgeT_len h.e
  unfold writtenM
  cases e : c.2.2 with
  | none =>
    show (edgeT c.1 ++ Str.ofString ":" ++ edgeT c.2.1).length ≤ 38
    rw [len_app, len_app, colon_len]
    omega
  | some s =>
    have h3 : (edgeT (some s)).length ≤ 12 := by
      have := edgeT_len h.s
      rwa [e] at this
    show (edgeT c.1 ++ Str.ofString ":" ++ edgeT c.2.1 ++ Str.ofString ":" ++ edgeT (some s)).length ≤ 38
    rw [len_app, len_app, len_app, len_app, colon_len]
    omega
end Gd
namespace Gd
open PySem PySem.Spec PyProof.Rows L2
theorem whole_inv {x : D} (a : Arg x) (h : whole x = true) : ∃ i, x = .int i := by
  have h : (isInt x && !isBool x) = true := h
  rw [Bool.and_eq_true] at h
  cases x with
  | int i => exact ⟨i, rfl⟩
  | bl b => cases h.2
  | _ => all_goals cases h.1
theorem whole_num {x : D} {lo hi : Int} (h : whole x = false) : isNum x lo hi = false := by
  cases x with
  | int i => cases h
  | _ => all_goals rfl
theorem whole_edge {x : D} (h : whole x = false) (hn : isN x = false) : isEdge x = false := by
  unfold isEdge
  rw [hn, whole_num h]
  rfl
theorem fm_edge : ∀ es : List D, (es.filterMap fun x => if isEdge x then none else some x).isEmpty = es.all isEdge
  | [] => rfl
  | x :: xs => by
    rw [List.filterMap_cons, List.all_cons]
    cases h : isEdge x with
    | true =>
      rw [Bool.true_and, ← fm_edge xs]
      rfl
    | false => rfl
end Gd
namespace Gd
open PySem PySem.Spec PyProof.Rows L2
theorem kit_ref {K : PySem.W.Frag} {C D : Addr} {b : Bool} (hd : PySem.W.hasDictIn K D = true) (ht : PySem.W.typeIn K (.ref D) = some (.type "type")) (hs : PySem.W.subIn K (.ref C) (.ref D) = some b) (hself : PySem.W.subIn K (.ref C) (.ref C) = some true) : PySem.W.kitOne K (.ref C) (.ref D) = some b := by
  unfold PySem.W.kitOne
  by_cases e : (Value.ref C == Value.ref D) = true
  · rw [if_pos e]
    have e2 : C = D := Value.ref.inj (beq_iff_eq.mp e)
    subst e2
    rw [hself] at hs
    exact hs
  · rw [if_neg e]
    obtain ⟨cd, hc, _⟩ := PySem.W.any_some hd
    have e2 : ((PySem.W.clsIn K D).isSome && PySem.W.typeIn K (.ref D) == some (.type "type")) = true := by rw [hc, ht] <;> rfl
    show (if ((PySem.W.clsIn K D).isSome && PySem.W.typeIn K (.ref D) == some (.type "type")) = true then PySem.W.subIn K (.ref C) (.ref D) else none) = some b
    rw [if_pos e2]
    exact hs
theorem kit_ix {K : PySem.W.Frag} {C : Addr} (hs : PySem.W.subIn K (.ref C) (.type "IndexError") = some true) : PySem.W.kitOne K (.ref C) (.type "IndexError") = some true := by
  unfold PySem.W.kitOne
  rw [if_neg (by simp)]
  show (if PySem.W.kitMeta "IndexError" = true then PySem.W.subIn K (.ref C) (.type "IndexError") else none) = some true
  rw [if_pos (by decide +kernel)]
  exact hs
end Gd

namespace Gd
open PySem PySem.Spec PyProof.Rows L2
/-! ### slates and views -/
abbrev sThings : Str := "things"
abbrev sElder : Str := "elder"
abbrev sLater : Str := "later"
abbrev sSlate : Str := "slate"
abbrev sChain : Str := "chain"
abbrev rowsD (e : List (List Int)) : D := .lst (e.map intsD)
abbrev slF (xs : List Int) (e l : List (List Int)) : List (Str × D) := [(sThings, intsD xs), (sElder, rowsD e), (sLater, rowsD l)]
abbrev viewN : List Str := [sSlate, sChain]
abbrev viewD (C s : Addr) (cs : List Cut) : D := .obj C viewN [.ref s, chainD cs]
theorem n1 : (sThings == sElder) = false := by decide +kernel
theorem n2 : (sThings == sLater) = false := by decide +kernel
theorem n3 : (sElder == sThings) = false := by decide +kernel
theorem n4 : (sElder == sLater) = false := by decide +kernel
theorem n5 : (sLater == sThings) = false := by decide +kernel
theorem n6 : (sLater == sElder) = false := by decide +kernel
theorem n7 : (sSlate == sChain) = false := by decide +kernel
theorem n8 : (sChain == sSlate) = false := by decide +kernel
theorem neS {a b : Str} (h : (a == b) = false) : ¬ a = b := fun e => by rw [e, beq_self_eq_true] at h; cases h
theorem sl_things (x y z : D) : [(sThings, x), (sElder, y), (sLater, z)].lookup sThings = some x := by
  rw [List.lookup_cons, beq_self_eq_true]
theorem sl_elder (x y z : D) : [(sThings, x), (sElder, y), (sLater, z)].lookup sElder = some y := by
  rw [List.lookup_cons, n3]
  show [(sElder, y), (sLater, z)].lookup sElder = some y
  rw [List.lookup_cons, beq_self_eq_true]
theorem sl_later (x y z : D) : [(sThings, x), (sElder, y), (sLater, z)].lookup sLater = some z := by
  rw [List.lookup_cons, n5]
  show [(sElder, y), (sLater, z)].lookup sLater = some z
  rw [List.lookup_cons, n6]
  show [(sLater, z)].lookup sLater = some z
  rw [List.lookup_cons, beq_self_eq_true]
theorem sl_no {f : Str} (x y z : D) (h1 : (f == sThings) = false) (h2 : (f == sElder) = false) (h3 : (f == sLater) = false) : [(sThings, x), (sElder, y), (sLater, z)].lookup f = none := by
  rw [List.lookup_cons, h1]
  show [(sElder, y), (sLater, z)].lookup f = none
  rw [List.lookup_cons, h2]
  show [(sLater, z)].lookup f = none
  rw [List.lookup_cons, h3]
  rfl
theorem vw_slate (x y : D) : (viewN.zip [x, y]).lookup sSlate = some x := by
  show [(sSlate, x), (sChain, y)].lookup sSlate = some x
  rw [List.lookup_cons, beq_self_eq_true]
theorem vw_chain (x y : D) : (viewN.zip [x, y]).lookup sChain = some y := by
  show [(sSlate, x), (sChain, y)].lookup sChain = some y
  rw [List.lookup_cons, n8]
  show [(sChain, y)].lookup sChain = some y
  rw [List.lookup_cons, beq_self_eq_true]
theorem vw_no {f : Str} (x y : D) (h1 : (f == sSlate) = false) (h2 : (f == sChain) = false) : (viewN.zip [x, y]).lookup f = none := by
  show [(sSlate, x), (sChain, y)].lookup f = none
  rw [List.lookup_cons, h1]
  show [(sChain, y)].lookup f = none
  rw [List.lookup_cons, h2]
  rfl
theorem pt_things (x y z v : D) : putD sThings v [(sThings, x), (sElder, y), (sLater, z)] = [(sThings, v), (sElder, y), (sLater, z)] := by
  unfold putD
  rw [if_pos rfl]
theorem pt_elder (x y z v : D) : putD sElder v [(sThings, x), (sElder, y), (sLater, z)] = [(sThings, x), (sElder, v), (sLater, z)] := by
  unfold putD
  rw [if_neg (neS n1)]
  unfold putD
  rw [if_pos rfl]
theorem pt_later (x y z v : D) : putD sLater v [(sThings, x), (sElder, y), (sLater, z)] = [(sThings, x), (sElder, y), (sLater, v)] := by
  unfold putD
  rw [if_neg (neS n2)]
  unfold putD
  rw [if_neg (neS n4)]
  unfold putD
  rw [if_pos rfl]
theorem pt_sl3 (x y z : D) : putD sLater z (putD sElder y (putD sThings x [])) = [(sThings, x), (sElder, y), (sLater, z)] := by
  show putD sLater z (putD sElder y [(sThings, x)]) = _
  have e1 : putD sElder y [(sThings, x)] = [(sThings, x), (sElder, y)] := by
    unfold putD
    rw [if_neg (neS n1)]
    rfl
  rw [e1]
  unfold putD
  rw [if_neg (neS n2)]
  unfold putD
  rw [if_neg (neS n4)]
  rfl
theorem pt_vw (x y : D) : putD sChain y (putD sSlate x []) = [(sSlate, x), (sChain, y)] := by
  show putD sChain y [(sSlate, x)] = _
  unfold putD
  rw [if_neg (neS n7)]
  rfl
section
variable {xc : Xc} {d : Dl} {m : M} {Q : D → M → Prop} {K : PySem.W.Frag} {C : Addr}
theorem gc_lenOC {T : TD} {a : Addr} {j : Nat} {fs : List (Str × D)} (hm : m[j]? = some (a, MO.ins C fs)) (h : T [.ref a] m (fun v m' => ∃ n : Int, v = .int n ∧ (0 ≤ n ∧ n < 2 ^ 63) ∧ Q (.int n) m') (fun _ _ _ => False)) : gc (rLenO C (spOf T)) [.ref a] m Q := fun H vs s r Q' k => by
  cases r with | cons r1 r2 =>
  cases r2
  have er := r1.ref_inv
  subst er
  obtain ⟨dx, fs', ea, ra⟩ := s.get hm
  refine ⟨a, dx, _, rfl, ea, [.ref a], m, _, fun _ _ _ => False, .cons r1 .nil, s, h, fun v H' z m' s2 r2 t2 ⟨n, e, hn, q⟩ => ?_, fun _ _ _ _ _ _ _ _ z => z.elim⟩
  subst e
  exact ⟨n, r2.int_inv, hn, k _ H' (.int n) m' s2 (.int n) t2 q⟩
theorem obj_cell {mn : Str} {a : Addr} {fs : List (Str × D)} {B : Prop} (j : Nat) (hm : m[j]? = some (a, MO.ins C fs)) (h : fs.lookup mn = none) (b : B) : ObjAt C m (.ref a) mn ∧ B := ⟨.inr ⟨a, j, fs, rfl, hm, h⟩, b⟩
end
def SlOk (xs : List Int) : Prop := xs.length ≤ 200 ∧ ∀ x ∈ xs, -1000000000 ≤ x ∧ x ≤ 1000000000
theorem all_num {xs : List Int} (h : ∀ x ∈ xs, -1000000000 ≤ x ∧ x ≤ 1000000000) : (xs.map D.int).all (fun x => isNum x (-1000000000) 1000000000) = true := by
  rw [List.all_eq_true]
  intro x hx
  obtain ⟨i, hi, rfl⟩ := List.mem_map.mp hx
  exact isNum_of (h i hi).1 (h i hi).2
/-- a number put at a place -/
theorem put_at (xs : List Int) {i : Nat} (h : i < xs.length) (v : Int) : xs.take i ++ [v] ++ xs.drop (i + 1) = xs.set i v := by
  rw [List.set_eq_take_append_cons_drop, if_pos h, List.append_assoc]
  rfl
theorem laid_len {row ts : List Int} {c : Cut} (h : (endsM c row.length).2.2 = 1) : (laidM row c ts).length ≤ row.length + ts.length := by
  unfold laidM
  rw [if_pos h, List.length_append, List.length_append, List.length_take, List.length_drop]
  have : (endsM c row.length).1 ≤ mx (endsM c row.length).1 (endsM c row.length).2.1 := by unfold mx; split <;> omega
  omega
theorem restM_sub {row ps : List Int} : ∀ x ∈ restM row ps, x ∈ row := fun x hx => by
  unfold restM at hx
  obtain ⟨⟨y, i⟩, h1, h2⟩ := List.mem_filterMap.mp hx
  have hy : y ∈ row := by
    obtain ⟨_, h⟩ := List.mem_zipIdx' h1
    rw [h]
    exact List.getElem_mem _
  split at h2
  · cases h2
  · cases h2; exact hy
theorem restM_len (row ps : List Int) : (restM row ps).length ≤ row.length := by
  unfold restM
  refine Nat.le_trans (List.length_filterMap_le _ _) ?_
  rw [List.length_zipIdx]
  exact Nat.le_refl _
end Gd

namespace Gd
open PySem PySem.Spec PyProof.Rows L2
/-! ### a comprehension over a list that is a cell -/
def ItOkC (J : It) (ds : List D) (m1 : M) (H1 : Hp) (Z : M → Prop) : Prop := ∀ (i : Nat) m' H', Step m1 H1 m' H' → MSat m' H' → Z m' →
  (i < ds.length → J.go i H' ∧ ∀ v H2, J.yld i H' v H2 → ∃ x, ds[i]? = some x ∧ Step m' H' m' H2 ∧ MSat m' H2 ∧ Rep (off m') H2 x v) ∧ (i = ds.length → J.stop i H')
def giC (xc : Xc) (wi : TI) (d : Dl) (m : M) (Z : M → Prop) (R : List D → M → Prop) : Prop :=
  ∀ sg H, MSat m H → ESat xc d m sg H → ∀ R' : It → Hp → Prop, (∀ J H1 ds m1, Step m H m1 H1 → MSat m1 H1 → ItOkC J ds m1 H1 Z → R ds m1 → R' J H1) → wi sg H R'
section
variable {xc : Xc} {d : Dl} {m : M} {Q : D → M → Prop} {E : De} {ta tb te : TE} {tt : TT} {ts : TS} {g : TG} {K : PySem.W.Frag}
theorem gi_listC {Z : M → Prop} {R : List D → M → Prop} (h : ge xc te d m fun x m1 => ∃ a ds, x = .ref a ∧ Z m1 ∧ (∀ m', Z m' → (a, MO.lst ds) ∈ m') ∧ R ds m1) : giC xc (iList K te) d m Z R := fun sg H s e R' k =>
  h sg H s e _ fun v H1 x m1 s1 r1 t1 ⟨a, ds, hx, hz, hZ, q⟩ => by
    subst hx
    rw [r1.ref_inv]
    obtain ⟨us, ea, ra⟩ := t1.all _ (hZ m1 hz)
    refine ⟨a, rfl, ⟨us, .inl (.inl ea)⟩, k _ H1 ds m1 s1 t1 (fun i m' H' s2 t2 z2 => ?_) q⟩
    obtain ⟨us', ea', ra'⟩ := t2.all _ (hZ m' z2)
    refine ⟨fun hi => ?_, fun hi => ⟨us', .inl (.inl ea'), by rw [← ra'.length]; omega⟩⟩
    obtain ⟨x, hx⟩ : ∃ x, ds[i]? = some x := ⟨ds[i], List.getElem?_eq_getElem hi⟩
    obtain ⟨v, hv, rv⟩ := ra'.get hx
    refine ⟨⟨us', v, .inl (.inl ea'), hv⟩, fun u H2 ⟨e2, hy⟩ => ?_⟩
    subst e2
    have := hy us' (.inl (.inl ea'))
    rw [hv] at this
    cases this
    exact ⟨x, hx, .refl, t2, rv⟩
def glcC (xc : Xc) (g : TG) (tt : TT) (te : TE) (d : Dl) (p : Addr) (Z : M → Prop) (R : List D → M → Prop) : List D → List D → M → Prop
  | [], acc, m => Z ((p, .lst acc) :: m) ∧ R acc m
  | x :: r, acc, m => Z ((p, .lst acc) :: m) ∧ gg xc g x d ((p, .lst acc) :: m) fun d2 m2 => gt xc tt d2 m2 fun b m3 => if b = true then ge xc te d2 m3 fun y m4 => ∃ m', m4 = (p, .lst acc) :: m' ∧ acc.length < 100000 ∧ glcC xc g tt te d p Z R r (acc ++ [y]) m' else ∃ m', m3 = (p, .lst acc) :: m' ∧ glcC xc g tt te d p Z R r acc m'
theorem glcC_Z {p : Addr} {Z : M → Prop} {R : List D → M → Prop} : ∀ {l acc : List D} {m : M}, glcC xc g tt te d p Z R l acc m → Z ((p, .lst acc) :: m)
  | [], _, _, h => h.1
  | _ :: _, _, _, h => h.1
theorem lc_allC {wi : TI} {vs : List Nat} {Z : M → Prop} {R : Addr → List D → M → Prop} (hg : GW g vs) (h : giC xc wi d m Z fun ds m1 => ∀ p, p ∉ dom m1 → glcC xc g tt te (wipeD d vs) p Z (R p) ds [] m1)
    (hR : ∀ H H' p acc m1, MSat m H → Step m H ((p, .lst acc) :: m1) H' → MSat ((p, .lst acc) :: m1) H' → R p acc m1 → ∀ Q' : VK, (∀ v H' x m', Step m H m' H' → Rep (off m') H' x v → MSat m' H' → Q x m' → Q' v H') → Q' (.ref p) H') : ge xc (tLc wi g tt te vs) d m Q := fun sg H s e Q' k =>
  h sg H s e _ fun J H1 ds m1 s1 t1 it q => by
    intro p np
    have q := q p (t1.off_new np)
    have c1 : Step m1 H1 ((p, MO.lst []) :: m1) (upd H1 p (.lst [])) := .cell np
    refine ⟨fun i n H' => ∃ acc m', Step m1 H1 ((p, MO.lst acc) :: m') H' ∧ MSat ((p, MO.lst acc) :: m') H' ∧ i + n = ds.length ∧ glcC xc g tt te (wipeD d vs) p Z (R p) (ds.drop i) acc m', ⟨ds.length, [], m1, c1, t1.cell np .nil, by omega, q⟩, fun i n H' ⟨acc, m', s2, t2, hn, w⟩ => ?_⟩
    obtain ⟨i1, i2⟩ := it i _ H' s2 t2 (glcC_Z w)
    by_cases hi : i < ds.length
    · obtain ⟨go, yl⟩ := i1 hi
      refine .inr ⟨go, fun H3 => ∃ acc m', Step m1 H1 ((p, MO.lst acc) :: m') H3 ∧ MSat ((p, MO.lst acc) :: m') H3 ∧ glcC xc g tt te (wipeD d vs) p Z (R p) (ds.drop (i + 1)) acc m', fun H3 ⟨acc, m', s3, t3, w3⟩ => ⟨n - 1, by omega, acc, m', s3, t3, by omega, w3⟩, fun v H2 hy => ?_⟩
      obtain ⟨x, hx, sy, ty, rv⟩ := yl v H2 hy
      have hd : ds.drop i = x :: ds.drop (i + 1) := by
        rw [List.drop_eq_getElem_cons hi]
        rw [List.getElem?_eq_getElem hi] at hx
        rw [Option.some.inj hx]
      rw [hd] at w
      have w := w.2
      have sA := s2.trans sy
      have eA := ((e.step s1).wipe vs).step sA
      have h1 := w v (wipe sg vs) H2 ty eA rv _ fun sg4 H4 d4 m4 s4 t4 e4 q4 => (show (fun sg2 H2 => tt sg2 H2 fun b H3 => if b = true then te sg2 H3 fun y H4 => ∃ acc, H4 p = some (.lst acc) ∧ acc.length < sizeLine ∧ (fun H3 => ∃ acc m', Step m1 H1 ((p, MO.lst acc) :: m') H3 ∧ MSat ((p, MO.lst acc) :: m') H3 ∧ glcC xc g tt te (wipeD d vs) p Z (R p) (ds.drop (i + 1)) acc m') (upd H4 p (.lst (acc ++ [y]))) else (fun H3 => ∃ acc m', Step m1 H1 ((p, MO.lst acc) :: m') H3 ∧ MSat ((p, MO.lst acc) :: m') H3 ∧ glcC xc g tt te (wipeD d vs) p Z (R p) (ds.drop (i + 1)) acc m') H3) sg4 H4 from
        q4 sg4 H4 t4 e4 _ fun b H5 m5 s5 t5 q5 => by
          cases b with
          | true =>
            refine q5 sg4 H5 t5 (e4.step s5) _ fun y H6 z m6 s6 r6 t6 ⟨m7, e7, hl, q7⟩ => ?_
            subst e7
            obtain ⟨us, eu, ru⟩ := t6.all _ List.mem_cons_self
            have w6 : Step ((p, MO.lst acc) :: m7) H6 ((p, MO.lst (acc ++ [z])) :: m7) (upd H6 p (.lst (us ++ [y]))) := Step.write (j := 0) t6 rfl
            exact ⟨us, eu, by rw [← ru.length]; exact Nat.lt_trans hl (by decide), acc ++ [z], m7, (((sA.trans s4).trans s5).trans s6).trans w6, MSat.writeL (j := 0) t6 rfl (ru.snoc r6), q7⟩
          | false =>
            obtain ⟨m7, e7, q7⟩ := q5
            subst e7
            exact ⟨acc, m7, (sA.trans s4).trans s5, t5, q7⟩)
      have h2 := hg v (wipe sg vs) H2 _ h1
      have ew : wipe (wipe sg vs) vs = wipe sg vs := by
        clear h2 h1 eA
        have one : ∀ (v : Nat) (ws : List Nat) (τ : L2.St), v ∈ ws → (wipe τ ws).set v none = wipe τ ws := by
          intro v ws
          induction ws with
          | nil => intro τ hv; cases hv
          | cons a ws ih =>
            intro τ hv
            show ((wipe τ ws).set a none).set v none = (wipe τ ws).set a none
            by_cases ha : v = a
            · subst ha
              rw [List.set_set]
            · rw [List.set_comm _ _ (Ne.symm ha), ih τ ((List.mem_cons.mp hv).resolve_left ha)]
        have all : ∀ (ws us : List Nat) (τ : L2.St), (∀ v ∈ ws, v ∈ us) → wipe (wipe τ us) ws = wipe τ us := by
          intro ws
          induction ws with
          | nil => intro us τ _; rfl
          | cons a ws ih =>
            intro us τ h
            show (wipe (wipe τ us) ws).set a none = wipe τ us
            rw [ih us τ fun v hv => h v (List.mem_cons_of_mem _ hv), one a us τ (h a List.mem_cons_self)]
        exact all vs vs sg fun _ h => h
      rw [ew] at h2
      exact h2
    · have e0 : i = ds.length := by omega
      refine .inl ⟨i2 e0, ?_⟩
      rw [e0, List.drop_length] at w
      exact hR H H' p acc m' s (s1.trans s2) t2 w.2 Q' k
theorem ge_lcMC {wi : TI} {vs : List Nat} {Z : M → Prop} (hg : GW g vs) (h : giC xc wi d m Z fun ds m1 => ∀ p, p ∉ dom m1 → glcC xc g tt te (wipeD d vs) p Z (fun acc m' => Q (.ref p) ((p, .lst acc) :: m')) ds [] m1) : ge xc (tLc wi g tt te vs) d m Q :=
  lc_allC (R := fun p acc m' => Q (.ref p) ((p, .lst acc) :: m')) hg h fun H H' p acc m1 s st t q Q' k => k _ H' _ _ st (.ref p) t q
end
end Gd

namespace L2
open PySem PySem.Spec PyProof.Rows
/-! ### an own exception over IndexError with an own __init__ -/
abbrev ixTail : List Value := [.type "IndexError", .type "LookupError", .type "Exception", .type "BaseException", .type "object"]
structure OixC (K : PySem.W.Frag) (C : Addr) : Prop where
  make : PySem.W.excInitIn K C ixTail "IndexError.__new__" = true
  ov : PySem.W.excOver K C ixTail = true
  hd : PySem.W.hasDictIn K C = true
  sa : PySem.W.findIn K (.ref C) "__setattr__" = some (some (.builtin "object.__setattr__"))
  exC : PySem.W.subIn K (.ref C) (.type "BaseException") = some true
  tyC : PySem.W.typeIn K (.ref C) = some (.type "type")
  kC : PySem.W.keepIn K (.ref C) = true
section
open PySem.W PySem.Calls PySem.HandSPX Builtin.ObjectAttr
variable {prog : Program} {w : World} {A : Around} {R : Result → Shared → Prop} {hp : Heap} {g : Array GenState} {d : Drawn} {t : Nat} {os : OsState}
theorem ix_taker {K : Frag} {C : Addr} {name : Str} (ha : findIn K (.ref C) name = some none) : takerIn K C name = some none := by
  unfold takerIn
  rw [ha]
  rfl
theorem osaI_new {K : Frag} {name : Str} {tk : Tok} {v : Value} {x C : Addr} {fv : Array Value} (X : K.In hp) (hx : hp.get? x = some { cls := .ref C, data := .fields fv }) (T : OixC K C) (ha : findIn K (.ref C) name = some none)
    (hq : ∀ h' tk' dx, (∀ b o, b ≠ x → hp.get? b = some o → h'.get? b = some o) → hp.objs.size ≤ dx → dx ≠ x → h'.get? x = some { cls := .ref C, dict := some dx, data := .fields fv } →
      h'.Ns1 dx (fun y => if y = name then some v else none) → R (.ok (.ret .none)) ⟨h', g, d, tk', os⟩) :
    codeAny (model prog w) A (.call (.builtin "object.__setattr__") ⟨[.ref x, .str name tk, v], []⟩) R ⟨hp, g, d, t, os⟩ := by
  have I : InstAt hp x { cls := .ref C, data := .fields fv } C none := ⟨hx, rfl, rfl, trivial⟩
  have hxs : x ≠ hp.objs.size := Nat.ne_of_lt (Heap.lt_size hx)
  refine osa_openX (s := ⟨hp, g, d, t, os⟩) PySem.F.store_IndexError X I T.ov (ix_taker ha) fun b => ?_
  obtain ⟨cd, hcd, hh⟩ := any_some T.hd
  have hcls : Looks (model prog w) hp (classData C) cd := looks_clsIn X hcd
  show wpAny _ _ (storeInOwnDict (.ref x) (.ref C) (.str name tk) name v b) _ _ _
  obtain ⟨nm, bs, mro, ns, qn, hd, sn, sb, ab, col, del⟩ := cd
  dsimp only at hh
  subst hh
  unfold storeInOwnDict ownDictForStores
  repeat (first | with_reducible refine store_in_new ?_ ?_ | with_reducible refine wpAny_loadPart_at hx ?_ | with_reducible refine hcls.at ?_ | wp_step)
  · exact ⟨_, #[], _, (Heap.get?_update_ne _ _ _ _ hxs.symm).trans (Heap.get?_push_at rfl rfl), rfl, fun e he => absurd he (by simp), fun _ => rfl⟩
  · intro h' tk' hn' hs
    have hx₁ : (hp.push { cls := .type "dict", data := .dict #[] }).get? x = some { cls := .ref C, data := .fields fv } := Heap.get?_push_of_some _ hx
    refine hq h' tk' hp.objs.size (fun b o hb ho => ?_) (Nat.le_refl _) hxs.symm ?_ hn'
    · exact (hs.2 b (Nat.ne_of_lt (Heap.lt_size ho))).trans ((Heap.get?_update_ne _ _ _ _ hb).trans (Heap.get?_push_of_some _ ho))
    · exact (hs.2 x hxs).trans (Heap.get?_update_self _ hx₁ rfl)
theorem osaI_old {K : Frag} {name : Str} {tk : Tok} {v : Value} {x C dx : Addr} {fv : Array Value} {m0 : Str → Option Value} {nl : List Str}
    (X : K.In hp) (hx : hp.get? x = some { cls := .ref C, dict := some dx, data := .fields fv }) (hns : hp.Ns1 dx m0) (hw : Within m0 nl) (hz : nl.length ≤ 1000) (T : OixC K C) (ha : findIn K (.ref C) name = some none)
    (hq : ∀ h' tk', (∀ b o, b ≠ dx → hp.get? b = some o → h'.get? b = some o) → h'.Ns1 dx (fun y => if y = name then some v else m0 y) → R (.ok (.ret .none)) ⟨h', g, d, tk', os⟩) :
    codeAny (model prog w) A (.call (.builtin "object.__setattr__") ⟨[.ref x, .str name tk, v], []⟩) R ⟨hp, g, d, t, os⟩ := by
  obtain ⟨oD, esD, epD, hoD, hdD, _⟩ := hns.count hw
  have I : InstAt hp x { cls := .ref C, dict := some dx, data := .fields fv } C (some oD) := ⟨hx, rfl, rfl, hoD⟩
  refine osa_openX (s := ⟨hp, g, d, t, os⟩) PySem.F.store_IndexError X I T.ov (ix_taker ha) fun b => ?_
  obtain ⟨cd, hcd, hh⟩ := any_some T.hd
  have hcls : Looks (model prog w) hp (classData C) cd := looks_clsIn X hcd
  show wpAny _ _ (storeInOwnDict (.ref x) (.ref C) (.str name tk) name v b) _ _ _
  obtain ⟨nm, bs, mro, ns, qn, hd, sn, sb, ab, col, del⟩ := cd
  dsimp only at hh
  subst hh
  unfold storeInOwnDict ownDictForStores
  repeat (first | with_reducible refine PySem.OEX.store_in_old hns hw hz ?_ | with_reducible refine wpAny_loadPart_at hx ?_ | with_reducible refine hcls.at ?_ | wp_step)
  intro h' tk' hn' hs
  exact hq h' tk' (fun b o hb ho => (hs.2 b hb).trans ho) hn'
end
section
variable {X : Cx} {pins : List (Addr × Obj)} {σ : St} {H : Hp} {s : Shared} {a C dx : Addr} {f : Str} {y : V} {u : Value} {fs : List (Str × V)} {Q : Unit → Shared → Prop} {E : Value → Shared → Prop} {A : Around}
theorem ostI_new (T : OixC X.K C) (I : Inv X pins σ H s) (e : H a = some (exo a C none)) (hno : PySem.W.findIn X.K (.ref C) f = some none) (ry : RelV y u)
    (h : ∀ dx s', H dx = none → dx ≠ a → Inv X pins σ (upd (upd H dx (exd dx [(f, y)])) a (exo a C (some dx))) s' → Q () s') : wpAny (model X.prog X.w) A (setAttr (.ref a) f u) Q E s := by
  obtain ⟨t1, ho⟩ := exo_at I.hok e
  obtain ⟨hp, g, d, t, os⟩ := s
  refine PySem.W.set_plain I.kIn (ox := { cls := .ref C, dict := none, data := .fields #[.ref t1, .none, .none, .none, .bool false, .none] }) (od := none) ⟨ho, rfl, rfl, trivial⟩ T.sa ?_
  refine osaI_new I.kIn ho T hno (fun h' tk' dx k dn dne hx hn => ?_)
  have hnd : H dx = none := I.hok.fresh dn
  have nd : ∀ {b : Addr} {o : Obj}, hp.get? b = some o → b ≠ dx := fun {b o} q => Nat.ne_of_lt (Nat.lt_of_lt_of_le (Heap.lt_size q) dn)
  have na : ∀ {b : Addr}, H b = none → b ≠ a := fun {b} n z => by
    rw [z, e] at n
    cases n
  have Un1 : Un X.fs [] H (upd (upd H dx (exd dx [(f, y)])) a (exo a C (some dx))) hp h' := {
    keep := fun b o q n _ _ => k b o (na n) q
    slot := fun b o q n _ _ => ⟨o.slots, k b o (na n) q⟩
    free := fun b o q n _ => by rw [upd_ne (na n), upd_ne (nd q)]; exact n
    there := fun b o q _ => by
      by_cases hb : b = a
      · exact ⟨_, by rw [hb]; exact hx⟩
      · exact ⟨o, k b o hb q⟩
    tups := fun b xs q => by rw [upd_ne (at_ne e q exo_tup), upd_ne (ne_of_none q hnd)]; exact q
    frzs := fun b o v q => by rw [upd_ne (at_ne e q exo_frz), upd_ne (ne_of_none q hnd)]; exact q
    tbls := fun b ps q => ⟨#[], by rw [upd_ne (at_ne e q exo_tbl), upd_ne (ne_of_none q hnd), q]; simp⟩ }
  refine h dx _ hnd dne (I.un (t' := tk') Un1 fun b o q => ?_)
  by_cases hb : b = a
  · subst hb
    rw [upd_same] at q
    cases q
    exact exo_ok hx
  · rw [upd_ne hb] at q
    by_cases hd : b = dx
    · subst hd
      rw [upd_same] at q
      cases q
      exact exd_ok hn (relO_put (fs := []) ry fun g => True.intro)
    · rw [upd_ne hd] at q
      exact (I.hok b o q).stay (fun c v hc z => k c v (by
          rcases hc with hc | hc
          · rw [hc]
            exact hb
          · exact at_ne e hc exo_own) z)
        (fun c hc => by rw [upd_ne (at_ne e hc exo_own), upd_ne (ne_of_none hc hnd)]; exact hc) (fun c xs hc => by rw [upd_ne (at_ne e hc exo_tup), upd_ne (ne_of_none hc hnd)]; exact hc)
theorem ostI_old (T : OixC X.K C) (I : Inv X pins σ H s) (e : H a = some (exo a C (some dx))) (ed : H dx = some (exd dx fs)) (hl : fs.length ≤ 900) (hno : PySem.W.findIn X.K (.ref C) f = some none) (ry : RelV y u)
    (h : ∀ s', Inv X pins σ (upd H dx (exd dx ((f, y) :: fs))) s' → Q () s') : wpAny (model X.prog X.w) A (setAttr (.ref a) f u) Q E s := by
  obtain ⟨t1, ho⟩ := exo_at I.hok e
  obtain ⟨mA, hns, rel⟩ := exd_at I.hok ed
  have hw := within_of rel
  obtain ⟨hp, g, d, t, os⟩ := s
  obtain ⟨oD, _, _, hoD, _, _⟩ := hns.count hw
  refine PySem.W.set_plain I.kIn (ox := { cls := .ref C, dict := some dx, data := .fields #[.ref t1, .none, .none, .none, .bool false, .none] }) (od := some oD) ⟨ho, rfl, rfl, hoD⟩ T.sa ?_
  refine osaI_old I.kIn ho hns hw (by rw [List.length_map]; omega) T hno (fun h' tk' k hn => ?_)
  have hd : ∃ o, h'.get? dx = some o := by
    obtain ⟨o, _, _, e', _⟩ := hn
    exact ⟨o, e'⟩
  exact h _ (I.write (t' := tk') (x := dx) (e := dx) (o := exd dx ((f, y) :: fs)) (by rw [ed]; exact True.intro) (.inl rfl) k hd (exd_ok hn (relO_put ry rel)))
end
/-- self.f = e, self such an exception that is being made -/
def tOstI (K : PySem.W.Frag) (f : Str) (to te : TE) : TS := fun D σ H => te σ H fun y H1 => to σ H1 fun x H2 => ∃ a C : Addr, x = .ref a ∧ OixC K C ∧ PySem.W.findIn K (.ref C) f = some none ∧
  ((H2 a = some (exo a C none) ∧ ∀ dx, H2 dx = none → dx ≠ a → D.nx σ (upd (upd H2 dx (exd dx [(f, y)])) a (exo a C (some dx)))) ∨
    ∃ (dx : Addr) (fs : List (Str × V)), H2 a = some (exo a C (some dx)) ∧ H2 dx = some (exd dx fs) ∧ fs.length ≤ 900 ∧ D.nx σ (upd H2 dx (exd dx ((f, y) :: fs))))
section
variable {X : Cx} {o e : Expr} {es : List Expr} {to te : TE} {ta : TA} {f : Str} {p p' p1 p2 pos : Pos}
theorem ps_ostI (ho : PE X o to) (he : PE X e te) (hs : swapsWith e (some (.Attribute o f p')) pos.line X.env = pure false := by rfl) : PS X (.Assign [.Attribute o f p'] e pos) (tOstI X.K f to te) := by
  refine ⟨fun pins s σ H D I h => ?_⟩
  refine plainObj_wpAny_Assign_Attribute (thn (he.run pins s σ H _ I h) fun v s1 ⟨y, H1, I1, r1, q1⟩ => thn (ho.run pins s1 σ H1 _ I1 q1) fun u s2 ⟨x, H2, I2, r2, a, C, ex, T, hno, q⟩ => ?_) hs
  subst ex
  obtain rfl : u = Value.ref a := r2
  rcases q with ⟨ea, q⟩ | ⟨dx, fs, ea, ed, hl, q⟩
  · exact ostI_new T I2 ea hno r1 fun dx s' n ne J => ⟨σ, _, J, q dx n ne⟩
  · exact ostI_old T I2 ea ed hl hno r1 fun s' J => ⟨σ, _, J, q⟩
theorem pmk_oix {CX : CXT} {x : Str} {C fI : Addr} {k : Nat} {fd : FuncData} {ps : List Str} {sp : Sp} {ds : List Value} {dvs : List V} (T : OixC X.K C) (iC : PySem.W.findIn X.K (.ref C) "__init__" = some (some (.ref fI))) (tI : PySem.W.typeIn X.K (.ref fI) = some (.type "function"))
    (F1 : FnOk X.prog X.w X.K X.mg X.base CX k fI fd ps sp) (hr : Room (k + 1) X.A) (hb : Binds X.K fd ps ds) (hd : Vals dvs ds) (hx : Passes CX X (fun _ _ _ => False)) (hg : Gl X x) (hm : X.mg x = some (.ref C)) (ha : PA X (e :: es) ta)
    (hdb : (x == ("__debug__" : Str)) = false := by decide) (he : starEach (e :: es) X.env = (false, eval e X.env) :: starEach es X.env := by rfl) (hpl : (backTo pos (starEach es X.env)).any (·.1) = false := by rfl) :
    PMk X (.Call (.Name x p) (e :: es) [] pos) (tMkO C sp dvs ta) := by
  intro pins s σ H Q I h
  refine wpAny_Call_Name_kw (ld_glob I hg hm ?_ hdb)
  refine PySem.W.callWith_K (h₀ := X.base) I.ok.mod.kin T.kC (thn (ha.run pos pins s σ H _ I h) fun us s1 ⟨vs, H1, I1, r1, hz, q1⟩ => ⟨I1.kIn, ?_⟩) he hpl
  show wpAny _ _ (call (.ref C) us) _ _ _
  obtain ⟨nm, N, qn, bs, bm, hdct, sn, sub, ab, col, dd, k0, k1, k2, k3, k5, hC, hT⟩ := PySem.W.excInit_of I1.kIn T.make
  obtain ⟨hp, g, dr, tk, os⟩ := s1
  have hsz : hp.objs.size ≤ hp.objs.size + 1 := Nat.le_succ _
  have hn : H1 (hp.objs.size + 1) = none := I1.hok.fresh hsz
  have hq := q1 (hp.objs.size + 1) hn
  have kk : ∀ b o, hp.get? b = some o → ((hp.push (PySem.W.kdv_tup us)).push (PySem.HandSPX.excO C hp.objs.size)).get? b = some o := fun b o e => Heap.get?_push_of_some _ (Heap.get?_push_of_some _ e)
  have hget : ((hp.push (PySem.W.kdv_tup us)).push (PySem.HandSPX.excO C hp.objs.size)).get? (hp.objs.size + 1) = some (PySem.HandSPX.excO C hp.objs.size) := by heap_get
  have I2 : Inv X pins σ (upd H1 (hp.objs.size + 1) (exo (hp.objs.size + 1) C none)) ⟨(hp.push (PySem.W.kdv_tup us)).push (PySem.HandSPX.excO C hp.objs.size), g, dr, tk, os⟩ :=
    I1.laid (t' := tk) (a := hp.objs.size + 1) (o := exo (hp.objs.size + 1) C none) (h' := (hp.push (PySem.W.kdv_tup us)).push (PySem.HandSPX.excO C hp.objs.size)) kk hsz (exo_ok hget)
  have r2 : Vals (V.ref (hp.objs.size + 1) :: (vs ++ dvs)) (Value.ref (hp.objs.size + 1) :: (us ++ ds)) := .cons rfl (r1.append hd)
  have hl : (Value.ref (hp.objs.size + 1) :: us ++ ds).length = ps.length := by
    have e := r2.length
    rw [F1.len _ _ _ _ hq] at e
    exact e.symm
  have hus : us.length ≤ sizeLine := by
    rw [← Paired.length r1, sizeLine_eq]
    omega
  refine wpAny_call (PySem.HandSPX.call_own PySem.F.excBase_IndexError hT hC (PySem.W.looks_findIn I1.kIn iC) (fun self => PySem.W.bind_fn I1.kIn self tI) hus
    (codeAny_mono (F1.run _ X.stack _ _ ⟨Value.ref (hp.objs.size + 1) :: us, []⟩ (Value.ref (hp.objs.size + 1) :: (us ++ ds)) _ _ (fun _ _ _ => False) (hr.make C us []) (I2.env0.make C us []) (hb _ (Value.ref (hp.objs.size + 1) :: us) I2.kIn hl) r2 hq) fun r s' hq' => ?_))
  cases r with
  | error er => exact hx pins σ _ _ er s' I2 hq'
  | ok fl =>
    cases fl with
    | ret u =>
      obtain ⟨v, H2, os2, bare2, un2, hok2, rv, ev, d, fs, ea, ed, hd1, q2⟩ := hq'
      subst ev
      obtain ⟨h2, g2, d2, t2, os'⟩ := s'
      exact ⟨rv, mk_end (raises_own T.exC T.tyC) I1 hsz kk un2 hok2 os2 bare2 ea ed hd1 q2⟩
    | next => exact False.elim hq'
    | brk => exact False.elim hq'
    | cont => exact False.elim hq'
end
/-! ### BadMany -/
abbrev sWant : Str := "want"
abbrev sGot : Str := "got"
/-- what the written part says of BadMany -/
structure ManyT (K : PySem.W.Frag) (mg : Str → Option Value) (C fI : Addr) : Prop where
  g : mg "BadMany" = some (.ref C)
  c : OixC K C
  nw : PySem.W.findIn K (.ref C) "want" = some none
  ng : PySem.W.findIn K (.ref C) "got" = some none
  i : PySem.W.findIn K (.ref C) "__init__" = some (some (.ref fI))
  t : PySem.W.typeIn K (.ref fI) = some (.type "function")
/-- its __init__: want and got are laid into its dict -/
def spMany (C : Addr) : Sp := fun vs H Q _ => ∃ (a : Addr) (v w : V), vs = [.ref a, v, w] ∧ H a = some (exo a C none) ∧ ∀ dx, H dx = none → dx ≠ a → Q .non (upd (upd (upd H dx (exd dx [(sWant, v)])) a (exo a C (some dx))) dx (exd dx [(sGot, w), (sWant, v)]))
def tManyI (K : PySem.W.Frag) : TS := tSeq (tOstI K "want" (tVar 0) (tVar 1)) (tOstI K "got" (tVar 0) (tVar 2))
theorem pure_many {K : PySem.W.Frag} {mg : Str → Option Value} {C fI : Addr} (T : ManyT K mg C fI) (vs : List V) (H : Hp) (Q : VK) (E : XK) (h : spMany C vs H Q E) : tManyI K { nx := fun _ H' => Q .non H', rt := Q } (start ["self", "want", "got"] vs) H := by
  obtain ⟨a, v, w, rfl, ea, q⟩ := h
  refine ⟨v, rfl, .ref a, rfl, a, C, rfl, T.c, T.nw, .inl ⟨ea, fun dx hd hne => ?_⟩⟩
  refine ⟨w, rfl, .ref a, rfl, a, C, rfl, T.c, T.ng, .inr ⟨dx, [(sWant, v)], upd_same, ?_, by simp, q dx hd hne⟩⟩
  rw [upd_ne hne]
  exact upd_same
/-- raise BadMany(e, e) -/
def tRaiseM (C : Addr) (E : XK) (ta : TA) : TS := fun _ σ H => tMkO C (spMany C) [] ta σ H fun cls d H' => E cls d H'
theorem ps_raiseM {X : Cx} {K : PySem.W.Frag} {mg : Str → Option Value} {C fI : Addr} {E : XK} {e : Expr} {es : List Expr} {k : Nat} {fd : FuncData} {ta : TA} {p pos pos2 : Pos} (t : ManyT K mg C fI) (F1 : FnOk X.prog X.w K X.mg X.base CX0 k fI fd ["self", "want", "got"] (spMany C)) (hr : Room (k + 1) X.A) (hb : Binds K fd ["self", "want", "got"] []) (hc : X.calm = true) (hK : X.K = K) (hm : X.mg = mg) (tk : Takes X (fun cls d _ H => E cls d H)) (hg : Gl X "BadMany") (ha : PA X (e :: es) ta)
    (he : starEach (e :: es) X.env = (false, eval e X.env) :: starEach es X.env := by rfl) (hpl : (backTo pos (starEach es X.env)).any (·.1) = false := by rfl) :
    PS X (.Raise (some (.Call (.Name "BadMany" p) (e :: es) [] pos)) none pos2) (tRaiseM C E ta) := by
  subst hK hm
  exact ps_raise (pos := pos2) hc tk (pmk_oix (p := p) t.c t.i t.t F1 hr hb .nil pass0 hg t.g ha (by decide) he hpl)
end L2
namespace Gd
open PySem PySem.Spec PyProof.Rows L2
theorem gs_raiseM {d : Dl} {m : M} {E : De} {aa : TA} {C : Addr} {X0 : XD} {Ex : XK} (h : ga ⟨X0, Ex⟩ aa d m fun xs m1 => ∃ v w, xs = [v, w] ∧ X0 (.ref C) (some [(sGot, w), (sWant, v)]) m1) : gs ⟨X0, Ex⟩ (tRaiseM C Ex aa) E d m := fun sg H s e E' okk =>
  h sg H s e _ fun vs H1 xs m1 s1 r1 t1 ⟨v, w, ev, q⟩ => by
    subst ev
    cases r1 with | cons rv r2 =>
    cases r2 with | cons rw' r3 =>
    cases r3
    rename_i vv ww
    refine ⟨by simp, fun a na => ⟨a, vv, ww, rfl, upd_same, fun dx hd hne => ⟨rfl, dx, [(sGot, ww), (sWant, vv)], ?_, upd_same, ?_, ?_⟩⟩⟩
    · rw [upd_ne (Ne.symm hne)]
      exact upd_same
    · rw [upd_ne hne] at hd
      exact hd
    · have hd1 : H1 dx = none := by rw [upd_ne hne] at hd; exact hd
      have e1 : upd (del (upd (upd (upd (upd H1 a (exo a C none)) dx (exd dx [(sWant, vv)])) a (exo a C (some dx))) dx (exd dx [(sGot, ww), (sWant, vv)])) a) dx (.xd [(sGot, ww), (sWant, vv)]) = upd H1 dx (.xd [(sGot, ww), (sWant, vv)]) := by
        funext b
        by_cases hb : b = dx
        · rw [hb, upd_same, upd_same]
        · rw [upd_ne hb, upd_ne hb]
          by_cases ha : b = a
          · rw [ha, del_same, na]
          · rw [del_ne ha, upd_ne hb, upd_ne ha, upd_ne hb, upd_ne ha]
      rw [e1]
      have st : Step m1 H1 m1 (upd H1 dx (.xd [(sGot, ww), (sWant, vv)])) := .fresh hd1
      exact e.xk _ (some [(sGot, w), (sWant, v)]) m1 _ (some dx) (s1.trans st) (t1.fresh hd1) ⟨_, upd_same, .cons ⟨rfl, rw'.step st⟩ (.cons ⟨rfl, rv.step st⟩ .nil)⟩ q
end Gd
namespace L2
open PySem PySem.Spec PyProof.Rows
/-! ### several except clauses with names; what was caught is tracked -/
section
variable {X : Cx} {pins : List (Addr × Obj)} {σ : St} {H : Hp} {s : Shared}
theorem Inv.repin {a : Addr} {q : Addr × Obj} {pn : List (Addr × Obj)} (I : Inv (X.suite a (q :: pn)) [] σ H s) (ok : X.Ok) : Inv (X.suite a pn) [q] σ H s :=
  ⟨ok.suite _ _, I.os, I.bare, I.base, I.loc, I.cell, I.free, I.freeC, fun p hp => I.pin p (List.mem_append_left _ (by
    rcases List.mem_append.mp hp with h | h
    · exact List.mem_cons_of_mem _ h
    · rcases List.mem_cons.mp h with e | h
      · rw [e]; exact List.mem_cons_self
      · cases h)), I.hok, I.len⟩
theorem Inv.unsuiteT {a : Addr} {pn' : List (Addr × Obj)} (I : Inv (X.suite a (X.pn ++ pins)) pn' σ H s) (ok : X.Ok) : Inv X pins σ H s :=
  ⟨ok, I.os, I.bare, I.base, I.loc, I.cell, I.free, I.freeC, fun p hp => I.pin p (List.mem_append_left _ hp), I.hok, I.len⟩
end
abbrev HdT := Value × Nat × (Addr → Value → Option Addr → TS)
def wTrk (K : PySem.W.Frag) (Wout : WX) (D : Ends) : List HdT → WX
  | [] => Wout
  | (c, i, ts) :: r => fun cls d σ H => ∃ b, PySem.W.exmOne K cls c = some b ∧ (b = true → ∀ a, H a = none → ts a cls d { nx := fun σ' H' => D.nx (σ'.set i none) H', rt := fun _ _ => False, bk := fun _ _ => False, ct := fun _ _ => False } (σ.set i (some (.ref a))) (upd H a (Gd.EkO cls d a))) ∧ (b = false → wTrk K Wout D r cls d σ H)
inductive HdsT (X : Cx) : List ExceptHandler → List HdT → Prop
  | nil : HdsT X [] []
  | cons {x n : Str} {i : Nat} {c : Value} {ts : Addr → Value → Option Addr → TS} {b₀ : Stmt} {suite : List Stmt} {np pos' : Pos} {hds : List ExceptHandler} {l : List HdT} (hc : Names X x c) (hi : X.N[i]? = some n) (hln : X.env.kindOf n = some .local)
      (hsu : ∀ (a : Addr) (cls : Value) (d : Option Addr) (pn : List (Addr × Obj)), PSs (X.suite a pn) (b₀ :: suite) (ts a cls d)) (r : HdsT X hds l) :
      HdsT X (.ExceptHandler (some (.Name x np)) (some n) (b₀ :: suite) pos' :: hds) ((c, i, ts) :: l)
section
variable {X : Cx} {body : List Stmt} {h₀ : ExceptHandler} {hds : List ExceptHandler} {l : List HdT} {pos : Pos} {tb : WX → TS} {Wout : WX}
theorem ps_try_trk (hs : X.stack = X.env :: X.outer) (hf : X.env.frame = some X.env.locals) (hex : X.ex = []) (hN : X.N.Nodup) (tk : Takes X Wout)
    (hb : ∀ (W : WX) (pn : List (Addr × Obj)) (xe : Value → Shared → Prop), Takes (X.tr pn xe) W → PassesOwn (model X.prog X.w) X.A X.env xe → PSs (X.tr pn xe) body (tb W))
    (hh : HdsT X (h₀ :: hds) l) : PS X (.Try body (h₀ :: hds) [] [] pos) (fun D σ H => tb (wTrk X.K Wout D l) D σ H) := by
  refine ⟨fun pins s σ H D I h => ?_⟩
  have ok := I.ok
  have hfr : X.A.frames = some (X.env :: X.outer) := by rw [ok.frames, hs]
  refine wpAny_Try_except ?_
  refine wpAny_mono ((hb (wTrk X.K Wout D l) (X.pn ++ pins) (fun e s₁ => wpAny (model X.prog X.w) X.A (noteFrame e X.env) (fun _ s₂ => wpAny (model X.prog X.w) X.A (setFlight e none) (fun _ s₃ =>
    wpAny (model X.prog X.w) X.A (handleBy e X.env (h₀ :: hds)) (SP X pins D) X.xe s₃) X.xe s₂) X.xe s₁) (fun u s' xx => ?_) PassesOwn.looking).run [] s σ H D (I.toTry _) h) (fun f s1 hsp => ?_) (fun e s1 he => he)
  · obtain ⟨a, B, sI, pins', σ', H', cls, d, rfl, J', nb, up, sky, na, os, ag, w⟩ := xx
    have J : Inv X pins σ' H' sI := J'.ofTry ok
    have sky' : Sky B (X.env :: X.outer) a (Zc cls d) X.env.locals s'.heap := by rw [← hs]; exact sky
    show wpAny (model X.prog X.w) X.A (noteFrame (.ref a) X.env) _ _ _
    refine Sky.land Zc.steady hfr hf sky' fun h3 fl3 up3 => ?_
    have J3 : Inv X pins σ' H' { s' with heap := h3 } := J.landed nb fl3.1 (up.trans up3) os ag
    obtain ⟨oe3, vs3, he3, hz3, hd3⟩ := fl3.there
    have notFr : ∀ {h : Heap} {o : Obj} {vs : Array Value}, h.FunFrames B (X.env :: X.outer) → h.get? a = some o → o.data = .fields vs → a ∉ frs (X.env :: X.outer) := fun {h o vs} ff e dd hm => by
      obtain ⟨_, o', e', hnf⟩ := ff.mem hm
      rw [e] at e'; cases e'
      exact hnf _ dd
    have nfr := notFr fl3.2.2.1 he3 hd3
    have nI : sI.heap.get? a = none := by
      cases q : sI.heap.get? a with
      | none => rfl
      | some o =>
        have z := nb a o q (by rw [hs]; exact nfr)
        rw [fl3.2.1] at z
        cases z
    have n0 : X.s_0.heap.get? a = none := by
      cases q : X.s_0.heap.get? a with
      | none => rfl
      | some o =>
        obtain ⟨o', z⟩ := J.base.there a o q (by rw [hex]; exact fun z => nomatch z)
        rw [nI] at z
        cases z
    have npin : ∀ p ∈ X.pn ++ pins, p.1 ≠ a := fun p hp z => by
      have e := (J.pin p hp).1
      rw [z, nI] at e
      cases e
    have nL : a ≠ X.env.locals := fun z => nfr (List.mem_filterMap.mpr ⟨X.env, List.mem_cons_self, by rw [hf, z]⟩)
    have nF : a ∉ X.fs := fun hm => by
      obtain ⟨e, he, q⟩ := List.mem_filterMap.mp hm
      exact nfr (List.mem_filterMap.mpr ⟨e, List.mem_cons_of_mem _ he, q⟩)
    have S3 := J3.suite he3 hd3 na nL nF
    have go : ∀ {hds' : List ExceptHandler} {l' : List HdT}, HdsT X hds' l' → wTrk X.K Wout D l' cls d σ' H' →
        wpAny (model X.prog X.w) X.A (handleBy (.ref a) X.env hds') (SP X pins D) X.xe { s' with heap := h3 } := by
      intro hds' l' hk
      induction hk with
      | nil =>
        intro w
        refine wpAny_handleBy_nil ?_
        obtain ⟨k1, k2, k3, oe, vs, T, oT, ts', he, hz, hd, h1, hr⟩ := id fl3
        unfold PySem.passOn
        refine wpAny_bind (wpAny_field he hd h1 ?_)
        rw [if_neg (show ¬ ((Value.ref T == Value.none) = true) from by simp)]
        have fin : wpAny (model X.prog X.w) X.A (setFlight (.ref a) X.env.frame) (fun _ s4 => wpAny (model X.prog X.w) X.A (throw (.ref a) : Sem Flow) (SP X pins D) X.xe s4) X.xe { s' with heap := h3 } := by
          rw [hf]
          refine HandSPX.setFlight_upZ fl3 fun h4 hh4 up4 => wpAny_throw (tk _ _ ?_)
          exact ⟨a, B, sI, pins, σ', H', cls, d, rfl, J, nb, (up.trans up3).trans up4, .inr (.inr (by rw [hs]; exact hh4)), na, os, ag, w⟩
        first
          | exact wpAny_bind (wpAny_pure (wpAny_bind fin))
          | exact wpAny_bind fin
      | @cons x n i c ts b₀ suite np pos' hds2 l2 hc hi hln hsu r ih =>
        intro w
        obtain ⟨b, hb1, hyes, hno⟩ := w
        have hloc : Loc X.env.scope n := .inl hln
        refine wpAny_handleBy_cons (codeAny_handlers_test ?_) (by intro q; cases q)
        have LT : PySem.W.Looks (model X.prog X.w) h3 (typeOf (.ref a)) cls := fun A Q E s k q => wpAny_typeOf_ref (k _ _ he3) (by rw [hz3.1]; exact q)
        have LM := PySem.W.exm_one (M := model X.prog X.w) (J3.kIn) LT hb1
        have test : ∀ {Q : Value → Shared → Prop} {E : Value → Shared → Prop}, Q c { s' with heap := h3 } → wpAny (model X.prog X.w) (X.A.mark (some (.ref a))) (eval (.Name x np) X.env) Q E { s' with heap := h3 } := fun {Q E} q => by
          obtain ⟨hg, hdbg, hm | ⟨hm, hv, hnn⟩⟩ := hc
          · exact ld_glob (X := X.suite a ((a, oe3) :: (X.pn ++ pins))) S3 hg hm q hdbg
          · exact ld_blt (X := X.suite a ((a, oe3) :: (X.pn ++ pins))) S3 hg hm hv q hnn hdbg
        refine test (LM.here ?_)
        cases b with
        | true =>
          refine codeAny_handlers_suite_as ?_
          refine HandSPX.lands_againZ fl3 fun h4 fl4 up4 => ?_
          have J4 : Inv X pins σ' H' { s' with heap := h4 } := J.landed nb fl4.1 ((up.trans up3).trans up4) os ag
          obtain ⟨oe4, vs4, he4, hz4, hd4⟩ := fl4.there
          have S4 := J4.suite he4 hd4 na nL nF
          refine store_ok (X := X.suite a ((a, oe4) :: (X.pn ++ pins))) (v := .ref a) S4 hN hi hloc rfl (fun s5 S5 => ?_) (.inr hln)
          have S5' := S5.repin ok
          obtain ⟨e5, _⟩ := S5.pin (a, oe4) (List.mem_append.mpr (.inl List.mem_cons_self))
          have S6 : Inv (X.suite a (X.pn ++ pins)) [] (σ'.set i (some (.ref a))) (upd H' a (Gd.EkO cls d a)) s5 := S5'.trackG n0 (fun p hp => npin p (by rw [List.append_nil] at hp; exact hp)) (Gd.ekO_ok e5 hz4 hd4)
          refine wpAny_mono ((hsu a cls d (X.pn ++ pins)).run [] s5 _ _ _ S6 (hyes rfl a na)) (fun f s6 hsp => ?_) (fun _ _ z => False.elim z)
          cases f with
          | next =>
            obtain ⟨σ6, H6, S7, q6⟩ := hsp
            exact gone_ok (S7.unsuiteT ok) hN hi hln fun s7 J7 => ⟨_, _, J7, q6⟩
          | brk =>
            obtain ⟨σ6, H6, S7, q6⟩ := hsp
            exact False.elim q6
          | cont =>
            obtain ⟨σ6, H6, S7, q6⟩ := hsp
            exact False.elim q6
          | ret u =>
            obtain ⟨v6, σ6, H6, S7, r6, q6⟩ := hsp
            exact False.elim q6
        | false =>
          show wpAny _ X.A (handleBy (.ref a) X.env hds2) _ _ _
          exact ih (hno rfl)
    exact go hh w
  · cases f with
    | next =>
      obtain ⟨σ', H', J', q⟩ := hsp
      exact wpAny_execs_nil ⟨σ', H', J'.ofTry ok, q⟩
    | brk =>
      obtain ⟨σ', H', J', q⟩ := hsp
      exact ⟨σ', H', J'.ofTry ok, q⟩
    | cont =>
      obtain ⟨σ', H', J', q⟩ := hsp
      exact ⟨σ', H', J'.ofTry ok, q⟩
    | ret u =>
      obtain ⟨v, σ', H', J', r, q⟩ := hsp
      exact ⟨v, σ', H', J'.ofTry ok, r, q⟩
end
/-! ### defs that are called within an except suite -/
open L2H (RoomH roomH_of)
structure FnW (P : Program) (w : World) (K : PySem.W.Frag) (mg : Str → Option Value) (base : Heap) (CX : CXT) (k : Nat) (f : Addr) (fd : FuncData) (ps : List Str) (sp : Sp) : Prop where
  len : ∀ vs H Q E, sp vs H Q E → vs.length = ps.length
  run : ∀ (A : Around) (outer : List Env) (s : Shared) (H : Hp) (args : Args) (us : List Value) (vs : List V) (Q : VK) (E : XK), RoomH k A → Env0 P w K mg base A outer s H → BindsTo s fd args (ps.zip us) → Vals vs us → sp vs H Q E →
    codeAny (model P w) A (.call (.ref f) args) (CR CX outer P w H s Q E) s
abbrev cxW (CX : CXT) (P : Program) (w : World) (K : PySem.W.Frag) (mg : Str → Option Value) (base : Heap) (N : List Str) (qual : Str) (scope : Scope) (f : Addr) (cd : Value) (A : Around) (outer : List Env) (s : Shared) (H : Hp) (E : XK) : Cx :=
  { cxOf CX P w K mg base N qual scope f cd A outer s H E with calm := false }
theorem inv_startW {CX : CXT} {P : Program} {w : World} {K : PySem.W.Frag} {mg : Str → Option Value} {base : Heap} {N ps : List Str} {qual : Str} {scope : Scope} {f : Addr} {cd : Value} {A : Around} {outer : List Env} {s s1 : Shared} {H : Hp} {E : XK} {us : List Value} {vs : List V}
    (S : FnScope N ps scope) (e0 : Env0 P w K mg base A outer s H) (hl : vs.length = ps.length) (r : Vals vs us)
    (x : InCallC s s.heap.objs.size (bindL (envOfC qual scope s.heap.objs.size f cd).kindOf (ps.zip us) fun _ => none) (cellsFrom (s.heap.objs.size + 1) scope.names []) (bindC (envOfC qual scope s.heap.objs.size f cd).kindOf (ps.zip us) fun _ => none) s1) :
    Inv (cxW CX P w K mg base N qual scope f cd A outer s H E) [] (start N vs) H s1 := by
  have e1 : Env0 P w K mg base { A with handled := none } outer s H := ⟨e0.frames, e0.mod, e0.bs, e0.bsz, e0.funs, e0.frf, e0.hok, e0.bare⟩
  have I : Inv (cxOf CX P w K mg base N qual scope f cd { A with handled := none } outer s H E) [] (start N vs) H s1 := inv_start S rfl e1 hl r x
  have ok := I.ok
  exact ⟨⟨ok.mod, ok.kind, ok.glob, ok.blt, ok.above, ok.inj, ok.has, ok.cab, (fun z => Bool.noConfusion (show false = true from z)), ok.frames, ok.stk, ok.exf, ok.bs, ok.bsz, ok.noex, ok.exfs, ok.funs, ok.frf⟩, I.os, I.bare, I.base, I.loc, I.cell, I.free, I.freeC, I.pin, I.hok, I.len⟩
theorem fn_ofW {CX : CXT} {P : Program} {w : World} {K : PySem.W.Frag} {mg : Str → Option Value} {base : Heap} {k : Nat} {f : Addr} {name qual : Str} {params : Arguments} {body : List Stmt} {scope : Scope} {dV kV doc pm cdv ct oc : Value} {an od : Option Addr}
    {osl : Array (Option Value)} {N ps : List Str} {sp : Sp} (lk : K.lookup f = some ⟨oc, od, .func (PySem.W.fnOf name qual params body scope dV kV doc pm an cdv ct), osl⟩) (hcd : PySem.W.codeIn K cdv qual = true) (S : FnScope N ps scope)
    (len : ∀ vs H Q E, sp vs H Q E → vs.length = ps.length)
    (hbody : ∀ (A : Around) (outer : List Env) (s : Shared) (H : Hp) (vs : List V) (Q : VK) (E : XK), RoomH k (A.deeper (envOfC qual scope s.heap.objs.size f cdv)) → sp vs H Q E →
      ∃ t, PSs (cxW CX P w K mg base N qual scope f cdv A outer s H E) body t ∧ t { nx := fun _ H' => Q .non H', rt := Q } (start N vs) H) :
    FnW P w K mg base CX (k + 1) f (PySem.W.fnOf name qual params body scope dV kV doc pm an cdv ct) ps sp := by
  refine ⟨len, fun A outer s H args us vs Q E hr e0 hb r hsp => ?_⟩
  have hl := len _ _ _ _ hsp
  have KX : K.In s.heap := e0.mod.kin.keeps fun b o e => (e0.bs b o e).1
  have lim : s.heap.NoLimit := e0.mod.nolimit.keeps fun b o e => (e0.bs b o e).1
  have hkind : ∀ y ∈ ps.zip us, scope.names.lookup y.1 = some .local ∨ (scope.names.lookup y.1 = some .cell ∧ ((cellsFrom (s.heap.objs.size + 1) scope.names []).lookup y.1).isSome = true) := fun ⟨n, v⟩ hy => by
    rcases S.par n (List.of_mem_zip hy).1 with q | q
    · exact .inl q
    · exact .inr ⟨q, PySem.W.cellsFrom_some _ _ _ (.inl q)⟩
  refine codeAny_call_function hr.depth (KX _ _ lk) rfl S.co S.gen rfl (PySem.W.codeRec_of KX hcd) (hb _ _ _ _ ?_)
  refine wpAny_newFunctionEnv_cells S.kind hkind fun env he s1 x => ?_
  subst he
  refine ⟨lim.keeps x.toInCall.keep, codeAny_func ?_⟩
  obtain ⟨t, ht, hq⟩ := hbody A outer s H vs Q E (hr.deeper _) hsp
  have I : Inv (cxW CX P w K mg base N qual scope f cdv A outer s H E) [] (start N vs) H s1 := inv_startW S e0 hl r x
  refine wpAny_mono (ht.run [] s1 (start N vs) H _ I hq) (fun fl s' hs => ?_) fun e s' hs => hs
  have fin : ∀ {σ' : St} {H' : Hp} {v : V} {u : Value}, Inv (cxW CX P w K mg base N qual scope f cdv A outer s H E) [] σ' H' s' → RelV v u → Q v H' → CE outer P w H s Q u s' :=
    fun {σ' H' v u} J rv q => ⟨v, H', J.os, J.bare, J.base, J.hok, rv, q⟩
  cases fl with
  | ret u =>
    obtain ⟨v, σ', H', J, rv, q⟩ := hs
    exact fin J rv q
  | next =>
    obtain ⟨σ', H', J, q⟩ := hs
    exact fin (v := V.non) (u := Value.none) J rfl q
  | brk =>
    obtain ⟨_, _, _, q⟩ := hs
    exact False.elim q
  | cont =>
    obtain ⟨_, _, _, q⟩ := hs
    exact False.elim q
section
variable {X : Cx} {CX : CXT} {k : Nat} {f : Addr} {fd : FuncData} {ps : List Str} {sp : Sp} {E : XK} {x : Str} {q pos : Pos} {e : Expr} {es : List Expr} {t : TA}
theorem _root_.L2H.RoomH.units {k : Nat} {A : Around} (r : L2H.RoomH k A) : A.units + 64 < cLine := by have := r.un; omega
theorem run_fnW {pins : List (Addr × Obj)} {σ : St} {H : Hp} {s : Shared} {Q : VK} {us : List Value} {vs : List V} (F : FnW X.prog X.w X.K X.mg X.base CX k f fd ps sp) (hr : RoomH k X.A) (hb : Binds X.K fd ps []) (hx : Passes CX X E)
    (I : Inv X pins σ H s) (r : Vals vs us) (h : sp vs H Q E) : wpAny (model X.prog X.w) X.A (call (.ref f) us) (EP X pins σ Q) X.xe s := by
  have hl : us.length = ps.length := by rw [← r.length]; exact F.len _ _ _ _ h
  have b := hb s us I.kIn (by rw [List.append_nil]; exact hl)
  rw [List.append_nil] at b
  refine wpAny_call (codeAny_mono (F.run X.A X.stack s H ⟨us, []⟩ us vs Q E hr I.env0 b r h) fun r s' hq => ?_)
  cases r with
  | error e => exact hx pins σ H s e s' I hq
  | ok fl =>
    cases fl with
    | ret u => exact I.after hq
    | next => exact False.elim hq
    | brk => exact False.elim hq
    | cont => exact False.elim hq
theorem pe_callW (F : FnW X.prog X.w X.K X.mg X.base CX k f fd ps sp) (hr : RoomH k X.A) (hg : Gl X x) (hm : X.mg x = some (.ref f)) (hk : PySem.W.keepIn X.K (.ref f) = true) (hb : Binds X.K fd ps []) (hx : Passes CX X E)
    (ha : PA X (e :: es) t) (hdb : (x == ("__debug__" : Str)) = false := by decide) (he : starEach (e :: es) X.env = (false, eval e X.env) :: starEach es X.env := by rfl) (hpl : (backTo pos (starEach es X.env)).any (·.1) = false := by rfl) :
    PE X (.Call (.Name x q) (e :: es) [] pos) (tCall sp [] E t) := by
  refine ⟨fun pins s σ H Q I h => ?_⟩
  refine wpAny_Call_Name_kw (ld_glob I hg hm ?_ hdb)
  refine PySem.W.callWith_K (h₀ := X.base) I.ok.mod.kin hk (thn (ha.run pos pins s σ H _ I h) fun us s1 ⟨vs, H1, I1, r, q⟩ => ⟨I1.kIn, ?_⟩) he hpl
  have q : sp (vs ++ []) H1 Q E := q
  rw [List.append_nil] at q
  exact run_fnW F hr hb hx I1 r q
end
/-! ### exceptions with fields, tracked -/
theorem ek_inst {P : Program} {w : World} {H : Hp} {h : Heap} {a D dx : Addr} {fs : List (Str × V)} (hok : HOk P w H h) (ha : H a = some (Gd.EkO (.ref D) (some dx) a)) (hd : H dx = some (.xd fs)) :
    ∃ (oe od : Obj) (mA : Str → Option Value), PySem.W.InstAt h a oe D (some od) ∧ (∀ name, PySem.W.lookIn name od = some (mA name)) ∧ ∀ f, RelO (fs.lookup f) (mA f) := by
  have x1 : ObjOk P w H h a (Gd.EkO (.ref D) (some dx) a) := hok a _ ha
  obtain ⟨⟨oe, vs, hget, hz, hv⟩, _, _⟩ := x1
  have x2 : ObjOk P w H h dx (.xd fs) := hok dx _ hd
  obtain ⟨mA, hns, hr⟩ := x2
  obtain ⟨od, ho, hl⟩ := lookIn_ns hns
  exact ⟨oe, od, mA, ⟨hget, hz.1, by unfold PySem.W.notCls; rw [hv] <;> rfl, by rw [hz.2]; exact ho⟩, hl, hr⟩
/-- e.f, e a tracked exception -/
structure XfT (K : PySem.W.Frag) (C : Addr) (f : Str) : Prop where
  c : ExcC K C
  no : PySem.W.findIn K (.ref C) f = some none
def tXf (K : PySem.W.Frag) (f : Str) (te : TE) : TE := fun σ H Q => te σ H fun x H1 => ∃ (a C dx : Addr) (fs : List (Str × V)) (v : V), x = .ref a ∧ H1 a = some (Gd.EkO (.ref C) (some dx) a) ∧ H1 dx = some (.xd fs) ∧ XfT K C f ∧ fs.lookup f = some v ∧ Q v H1
theorem kXf {X : Cx} (K : PySem.W.Frag) {e : Expr} {te : TE} {f : Str} {pos : Pos} (he : PE X e te) (hb : attributeBase e f X.env (eval e X.env) = eval e X.env := by rfl) (h : X.K = K := by rfl) : PE X (.Attribute e f pos) (tXf K f te) := by
  subst h
  refine ⟨fun pins s σ H Q I h => ?_⟩
  refine attr_of hb (thn (he.run pins s σ H _ I h) fun u s1 hh => ?_)
  obtain ⟨x, H1, I1, rx, a, C, dx, fs, v, ex, ea, ed, T, l, q⟩ := hh
  subst ex
  obtain rfl : u = Value.ref a := rx
  obtain ⟨oe, od, mA, J, hl, hr⟩ := ek_inst I1.hok ea ed
  obtain ⟨u, hu, ru⟩ := RelO.some_of (v := v) (o := mA f) (by rw [← l]; exact hr f)
  exact HandSPX.exc_get I1.kIn J T.c.hg T.c.hk T.c.hs (PySem.W.findObj_own T.c.hd T.no rfl (by rw [hl, hu])) (handed_of ru) ⟨v, H1, I1.tok _, ru, q⟩
/-- isinstance(e, c), with or without fields -/
def rIsK2 (K : PySem.W.Frag) : List V → Hp → VK → Prop := fun xs H Q => ∃ (a D : Addr) (od : Option Addr) (c : V) (cv : Value) (b : Bool), xs = [.ref a, c] ∧ H a = some (Gd.EkO (.ref D) od a) ∧ (∀ dx, od = some dx → ∃ fs, H dx = some (.xd fs)) ∧ ExcC K D ∧ (∀ u, RelV c u → u = cv) ∧ PySem.W.kitOne K (.ref D) cv = some b ∧ Q (.bl b) H
theorem call_isK2 {X : Cx} : CallR X (.builtin "isinstance") (rIsK2 X.K) := by
  intro pins s σ H xs us Q I r h
  obtain ⟨a, D, od, c, cv, b, rfl, ha, hdx, C, hcv, e, q⟩ := h
  cases od with
  | none => exact call_isK pins s σ H _ us Q I r ⟨a, D, c, cv, b, rfl, ha, C, hcv, e, q⟩
  | some dx =>
    obtain ⟨fs, hd⟩ := hdx dx rfl
    cases r with
    | cons rx rr =>
      cases rr with
      | cons rt rr =>
        cases rr
        cases rx
        have ec := hcv _ rt
        subst ec
        obtain ⟨oe, od, mA, J, hl, hr⟩ := ek_inst I.hok ha hd
        have hcl : (PySem.W.clsIn X.K D).isSome = true := by
          obtain ⟨cd, hcd, _⟩ := PySem.W.any_some C.hd
          rw [hcd]; rfl
        exact PySem.W.kia_one (PySem.W.kitx_exc hcl C.hg C.hk C.hs C.ha C.hn C.ht C.hm) I.kIn J e (fun z => nomatch z) fun tk => ⟨.bl b, H, I.kept (t' := tk) fun _ _ z => z, rfl, q⟩
theorem kIsK2 {X : Cx} (K : PySem.W.Frag) (h : X.K = K := by rfl) : CallR X (.builtin "isinstance") (rIsK2 K) := by subst h; exact call_isK2
/-- try: v = f(..) except .. as n: .. except .. as n: .. -/
def tTryT (K : PySem.W.Frag) (j : Nat) (sp : Sp) (aa : TA) (l : List HdT) : TS := fun D σ H => aa σ H fun vs H1 => sp vs H1 (fun v H2 => D.nx (σ.set j (some v)) H2) fun cls d H2 => wTrk K (fun _ _ _ _ => False) D l cls d σ H2
theorem ps_tryT {X : Cx} {K : PySem.W.Frag} {j kk : Nat} {f y : Str} {e : Expr} {es : List Expr} {t : TA} {fa : Addr} {fd : FuncData} {ps : List Str} {sp : Sp} {h₀ : ExceptHandler} {hds : List ExceptHandler} {l : List HdT} {p2 p3 p4 p5 pos : Pos}
    (hK : X.K = K) (hs : X.stack = X.env :: X.outer) (hf : X.env.frame = some X.env.locals) (hex : X.ex = []) (hN : X.N.Nodup) (hj : X.N[j]? = some y) (hly : X.env.scope.names.lookup y = some .local)
    (F : FnOk X.prog X.w X.K X.mg X.base (L2.CX X.prog X.w) kk fa fd ps sp) (hr : Room kk X.A) (hg : Gl X f) (hm : X.mg f = some (.ref fa)) (hkp : PySem.W.keepIn X.K (.ref fa) = true) (hb : Binds X.K fd ps []) (ha : ∀ (pn : List (Addr × Obj)) (xe : Value → Shared → Prop), PA (X.tr pn xe) (e :: es) t)
    (hh : HdsT X (h₀ :: hds) l) (he : starEach (e :: es) X.env = (false, eval e X.env) :: starEach es X.env := by rfl) (hpl : (backTo p3 (starEach es X.env)).any (·.1) = false := by rfl)
    (hw : swapsWith (.Call (.Name f p2) (e :: es) [] p3) (some (.Name y p4)) p5.line X.env = pure false := by rfl) (hdb : (f == ("__debug__" : Str)) = false := by decide) :
    PS X (.Try [.Assign [.Name y p4] (.Call (.Name f p2) (e :: es) [] p3) p5] (h₀ :: hds) [] [] pos) (tTryT K j sp t l) := by
  subst hK
  exact ps_try_trk (X := X) (pos := pos) (tb := fun W => tAsg (tCallS sp (WE W) t) (gName j)) hs hf hex hN (takes0 (X := X))
    (fun W pn xe tk _ => pss_one (ps_set (X := X.tr pn xe) (pos' := p4) (pos := p5) hN hj (.inl hly) (pe_callS (X := X.tr pn xe) (p := p2) (pos := p3) F hr hg hm hkp hb (fun σ => passAt tk σ) (ha pn xe) hdb he hpl) hw (.inr hly))) hh
end L2
namespace Gd
open PySem PySem.Spec PyProof.Rows L2
open L2H (RoomH roomH_of)
/-- the data of an exception of the class C -/
def ExD (C : Addr) (x : D) : Prop := x = .exc (.ref C) ∨ ∃ ns ds, x = .excF (.ref C) ns ds
theorem ExD.kept (C : Addr) (fs : Option (List (Str × D))) : ExD C (kept (.ref C) fs) := by
  cases fs with
  | none => exact .inl rfl
  | some fs => exact .inr ⟨_, _, rfl⟩
theorem ExD.at {C : Addr} {x : D} (h : ExD C x) {ok : Addr → Prop} {H : Hp} {v : V} (r : Rep ok H x v) : ∃ (a : Addr) (od : Option Addr), v = .ref a ∧ H a = some (EkO (.ref C) od a) ∧ ∀ dx, od = some dx → ∃ fs, H dx = some (.xd fs) := by
  rcases h with rfl | ⟨ns, ds, rfl⟩
  · obtain ⟨a, e, _, ea⟩ := r.exc_inv
    exact ⟨a, none, e, ea, fun dx z => nomatch z⟩
  · obtain ⟨a, dx, xs, e, _, ea, _, ed, _⟩ := r.excF_inv
    exact ⟨a, some dx, e, ea, fun d z => by cases z; exact ⟨_, ed⟩⟩
section
variable {xc : Xc} {d : Dl} {m : M} {Q : D → M → Prop} {E : De} {ta te : TE} {aa : TA} {K : PySem.W.Frag} {C D' : Addr} {b : Bool} {x : D}
theorem gc_isK2 (hx : ExD C x) (c : ExcC K C) (h : PySem.W.kitOne K (.ref C) (.ref D') = some b) (q : Q (.bl b) m) : gc (rIsK2 K) [x, .ref D'] m Q := fun H vs s r Q' k => by
  cases r with | cons r1 r2 =>
  cases r2 with | cons r2 r3 =>
  cases r3
  obtain ⟨a, od, rfl, ea, hd⟩ := hx.at r1
  rw [r2.ref_inv]
  exact ⟨a, C, od, .ref D', .ref D', b, rfl, ea, hd, c, fun u hu => hu, h, k _ H _ m .refl (.bl _) s q⟩
theorem gc_isKT2 {n : String} (hx : ExD C x) (c : ExcC K C) (h : PySem.W.kitOne K (.ref C) (.type n) = some b) (q : Q (.bl b) m) : gc (rIsK2 K) [x, .ty n] m Q := fun H vs s r Q' k => by
  cases r with | cons r1 r2 =>
  cases r2 with | cons r2 r3 =>
  cases r3
  obtain ⟨a, od, rfl, ea, hd⟩ := hx.at r1
  rw [r2.ty_inv]
  exact ⟨a, C, od, .ty n, .type n, b, rfl, ea, hd, c, fun u hu => hu, h, k _ H _ m .refl (.bl _) s q⟩
theorem ge_xf {f : Str} (T : XfT K C f) (h : ge xc te d m fun x m1 => ∃ ns ds z, x = .excF (.ref C) ns ds ∧ (ns.zip ds).lookup f = some z ∧ Q z m1) : ge xc (tXf K f te) d m Q := fun sg H s e Q' k =>
  h sg H s e _ fun v H1 x m1 s1 r1 t1 ⟨ns, ds, z, hx, hl, q⟩ => by
    subst hx
    obtain ⟨a, dx, xs, rfl, _, ea, _, ed, l, ra⟩ := r1.excF_inv
    obtain ⟨u, hu, ru⟩ := paired_look (paired_zip l ra) hl
    exact ⟨a, C, dx, _, u, rfl, ea, ed, T, hu, k u H1 z m1 s1 ru t1 q⟩
theorem rep_kept {m : M} {H : Hp} {a : Addr} {cls : Value} {fs : Option (List (Str × D))} {od : Option Addr} (t : MSat m H) (na : H a = none) (xf : XFs (off m) H fs od) : Rep (off m) (upd H a (EkO cls od a)) (kept cls fs) (.ref a) := by
  have st : Step m H m (upd H a (EkO cls od a)) := .fresh na
  cases fs with
  | none =>
    cases od with
    | none => exact .exc (t.off_new na) upd_same
    | some dx => exact xf.elim
  | some fs =>
    cases od with
    | none => exact xf.elim
    | some dx =>
      obtain ⟨fs', e1, e2⟩ := xf
      obtain ⟨e3, e4⟩ := paired_split e2
      have hd : H dx = some (.xd ((fs.map (·.1)).zip (fs'.map (·.2)))) := by rw [e1, ← e3]
      have od : off m dx := fun z => by
        obtain ⟨o, ho⟩ := mem_dom z
        cases o with
        | lst ds => obtain ⟨_, q, _⟩ := t.all _ ho; rw [e1] at q; cases q
        | ins C fs => obtain ⟨_, _, q, _⟩ := t.all _ ho; rw [e1] at q; cases q
        | dT kvs => obtain ⟨_, q, _⟩ := t.all _ ho; rw [e1] at q; cases q
      exact .excF (t.off_new na) upd_same od (by rw [upd_ne (ne_of_none hd na)]; exact hd) (by simp) (e4.step st)
/-- the clauses, one after the other -/
def gh (K : PySem.W.Frag) (xc : Xc) (d : Dl) (E : De) (cls : Value) (fs : Option (List (Str × D))) (m : M) : List (Value × Nat × TS) → Prop
  | [] => False
  | (c, i, ts) :: r => (PySem.W.exmOne K cls c = some true ∧ gs xc ts { nx := fun d' m' => E.nx (d'.set i none) m', rt := fun _ _ => False } (d.set i (some (kept cls fs))) m) ∨ (PySem.W.exmOne K cls c = some false ∧ gh K xc d E cls fs m r)
abbrev hdOf (l : List (Value × Nat × TS)) : List HdT := l.map fun p => (p.1, p.2.1, fun _ _ _ => p.2.2)
theorem gh_ok {cls : Value} {fs : Option (List (Str × D))} {od : Option Addr} {sg : L2.St} {H : Hp} {E' : Ends} (s : MSat m H) (e : ESat xc d m sg H) (xf : XFs (off m) H fs od) (ok : EOk xc E E' m H) : ∀ {l : List (Value × Nat × TS)}, gh K xc d E cls fs m l → wTrk K (fun _ _ _ _ => False) E' (hdOf l) cls od sg H
  | [], h => h.elim
  | (c, i, ts) :: r, .inl ⟨hm, h⟩ => by
    refine ⟨true, hm, fun _ a na => ?_, fun z => nomatch z⟩
    have st : Step m H m (upd H a (EkO cls od a)) := .fresh na
    refine h _ _ (s.fresh na) ((e.step st).set (rep_kept s na xf) i) _ ⟨fun sg' H' d' m' s1 t1 e1 q => ok.nx _ H' _ m' (st.trans s1) t1 (e1.unset i) q, fun _ _ _ _ _ _ _ q => q.elim, fun _ _ _ _ _ _ _ q => q.elim, fun _ _ _ _ _ _ _ q => q.elim⟩
  | (c, i, ts) :: r, .inr ⟨hm, h⟩ => ⟨false, hm, fun z => Bool.noConfusion z, fun _ => gh_ok s e xf ok h⟩
theorem gs_tryT {j : Nat} {T : TD} {l : List (Value × Nat × TS)} (h : ga xc aa d m fun xs m1 => T xs m1 (fun z m2 => E.nx (d.set j (some z)) m2) (fun cls fs m2 => gh K xc d E cls fs m2 l)) : gs xc (tTryT K j (spOf T) aa (hdOf l)) E d m := fun sg H s e E' ok =>
  h sg H s e _ fun vs H1 xs m1 s1 r1 t1 q =>
    ⟨xs, m1, _, _, r1, t1, q, fun v H' z m' s2 r2 t2 q2 => ok.nx _ H' _ m' (s1.trans s2) t2 (((e.step s1).step s2).set r2 j) q2, fun cls fs m' H' od s2 t2 xf q2 => gh_ok t2 ((e.step s1).step s2) xf ((ok.step s1).step s2) q2⟩
end
def ToldF (T1 : TD) (K : PySem.W.Frag) (CE : Addr) (exL : List Addr) (ds : List D) (m : M) (Q : D → M → Prop) : Prop := ∀ Q1 X1, (∀ z m', Q (foundD z) m' → Q1 z m') → (∀ C j fs m', j < 11 → ExWord K CE (exL.zip (flags j)) C → Q (refD j) m' → X1 (.ref C) fs m') → T1 ds m Q1 X1
theorem gs_tryT2 {xc : Xc} {d : Dl} {m : M} {E : De} {aa : TA} {K : PySem.W.Frag} {j : Nat} {T : TD} {c1 c2 : Value} {i1 i2 : Nat} {t1 t2 : TS} (h : ga xc aa d m fun xs m1 => T xs m1 (fun z m2 => E.nx (d.set j (some z)) m2) (fun cls fs m2 => gh K xc d E cls fs m2 [(c1, i1, t1), (c2, i2, t2)])) : gs xc (tTryT K j (spOf T) aa [(c1, i1, fun _ _ _ => t1), (c2, i2, fun _ _ _ => t2)]) E d m := gs_tryT (l := [(c1, i1, t1), (c2, i2, t2)]) h
section
variable {P : Program} {w : World} {K : PySem.W.Frag} {mg : Str → Option Value} {base : Heap}
theorem roomW {k n : Nat} {A : Around} {v : Option Value} (r : Room n A) (h : k ≤ n) : RoomH k (A.mark v) := ⟨by have := r.dp; show A.depth + 3 * k + 5 < _; omega, by have := r.un; show A.units + 16 * k + 200 < _; omega⟩
/-- a def that is called within an except suite -/
theorem fn_okW {x qual : Str} {st : Stmt} {f : Addr} {fd : FuncData} {N ps : List Str} {k : Nat} {T : TD} {n : Nat} (hn : N.length = n) (F : Fun K x qual st f fd) (S : FnScope N ps (defScope st)) (len : ∀ ds m Q X0, T ds m Q X0 → ds.length = ps.length)
    (hbody : ∀ (cdv : Value) (A : Around) (outer : List Env) (s : Shared) (H : Hp) (E : XK), RoomH k (A.deeper (envOfC qual (defScope st) s.heap.objs.size f cdv)) →
      ∃ t, PSs (cxW CX0 P w K mg base N qual (defScope st) f cdv A outer s H E) (defBody st) t ∧ ∀ ds m Q X0, T ds m Q X0 → gs ⟨X0, E⟩ t { nx := fun _ m' => Q .non m', rt := Q } (startD n ds) m) : FnW P w K mg base CX0 (k + 1) f fd ps (spOf T) := by
  subst hn
  obtain ⟨oc, od, kV, doc, pm, an, cdv, ct, osl, rfl, lk, hcd⟩ := F.ex
  refine fn_ofW lk hcd S (fun vs H Q E ⟨ds, m, Q0, X0, r, t, h, _⟩ => by rw [← r.length]; exact len _ _ _ _ h) fun A outer s H vs Q E hr ⟨ds, m, Q0, X0, r, t, h, hq, hx⟩ => ?_
  obtain ⟨tm, pt, hg⟩ := hbody cdv A outer s H E hr
  refine ⟨tm, pt, hg ds m Q0 X0 h (L2.start N vs) H t (esat_start r hx) _ ⟨fun sg' H' d' m' s1 t1 e1 q => hq _ H' _ m' s1 .non t1 q, fun v H' z m' s1 r1 t1 q => hq v H' z m' s1 r1 t1 q, fun _ _ _ _ _ _ _ q => q.elim, fun _ _ _ _ _ _ _ q => q.elim⟩⟩
end
end Gd

/-! two objects of one class that has no == of its own: == and != tell whether they are one -/
namespace PySem.W
open PySem PySem.Spec PySem.Calls PyProof.Rows
section
variable {prog : Program} {w : World} {A : Around} {E : Value → Shared → Prop} {s : Shared} {K : Frag} {x y C L f : Addr} {h₀ : Heap} {m : Str → Option Value} {ox oy : Obj} {od od' : Option Obj}
theorem gd_ifBound_eq {M : Model} {args : List Value} {Q : Option Value → Shared → Prop} (X : K.In s.heap) (I : InstAt s.heap x ox C od) (hs : findIn K (.ref C) "__eq__" = some (some (.builtin "object.__eq__")))
    (h : wpAny M A (call (.builtin "object.__eq__") (.ref x :: args)) (fun v => Q (some v)) E s) : wpAny M A (callSpecialIfBound? (.ref x) "__eq__" args) Q E s := by
  simp only [callSpecialIfBound?, bindSpecialIfBound?]
  refine wpAny_holding (wpAny_bind (wpAny_bind (wpAny_bind (I.type.here ((looks_findIn X hs).here ?_)))))
  refine wpAny_bind (wpAny_askSetting (wpAny_ite ?_))
  have fin : wpAny M A (call (.builtin "object.__eq__") ([.ref x] ++ args) >>= fun v => pure (some v)) Q E s := wpAny_bind (wpAny_mono h (fun v s' h' => wpAny_pure h') fun _ _ h' => h')
  simp only [PySem.F.cmp_object.eq.bind]
  split
  · exact wpAny_bind (wpAny_pure (wpAny_pure (by exact fin)))
  · exact wpAny_tryCatch (wpAny_bind (wpAny_pure (wpAny_pure (by exact fin))))
theorem gd_tryNe_same {Q : Option Value → Shared → Prop} (hu : A.units + 1 < cLine) (X : K.In s.heap) (I : InstAt s.heap x ox C od) (he : findIn K (.ref C) "__eq__" = some (some (.builtin "object.__eq__")))
    (hn : findIn K (.ref C) "__ne__" = some (some (.builtin "object.__ne__"))) (sub : Looks (model prog w) s.heap (isInstance (.ref x) (.type "object")) true) (hq : Q (some (.bool false)) s) : wpAny (model prog w) A (tryCompare (.ref x) "__ne__" (.ref x)) Q E s := by
  unfold tryCompare
  refine wpAny_bind (gd_ifBound_ne X I hn ?_)
  refine wpAny_call (codeAny_call_builtin PySem.F.cmp_object.ne.plain PySem.F.cmpEntry_ne ?_)
  refine check_slot (s := s) PySem.F.cmpKind_ne PySem.F.cmpSplit_ne sub (PySem.F.cmpArgs_ne _ _) ?_
  unfold Builtin.«object.__ne__»
  refine wpAny_bind (m := slotArgs "__ne__" 1 _) (wpAny_pure ?_)
  refine wpAny_bind (wpAny_cRoomFor hu ?_)
  refine wpAny_bind (m := callSpecialIfBound? (.ref x) (Str.ofString "__eq__") [.ref x]) (gd_ifBound_eq X I he ?_)
  refine wpAny_call (codeAny_call_builtin PySem.F.cmp_object.eq.plain PySem.F.cmpEntry_eq ?_)
  refine check_slot (s := s) PySem.F.cmpKind_eq PySem.F.cmpSplit_eq sub (PySem.F.cmpArgs_eq _ _) ?_
  refine objEq_entry_same ?_
  refine wpAny_bind (m := truthy (.bool true)) (wpAny_truthy_bool ?_)
  refine wpAny_pure ?_
  exact wpAny_pure hq
theorem gd_tryNe_other {Q : Option Value → Shared → Prop} (hu : A.units + 1 < cLine) (X : K.In s.heap) (I : InstAt s.heap x ox C od) (J : InstAt s.heap y oy C od') (hxy : x ≠ y) (he : findIn K (.ref C) "__eq__" = some (some (.builtin "object.__eq__")))
    (hn : findIn K (.ref C) "__ne__" = some (some (.builtin "object.__ne__"))) (sub : Looks (model prog w) s.heap (isInstance (.ref x) (.type "object")) true) (hq : Q none s) : wpAny (model prog w) A (tryCompare (.ref x) "__ne__" (.ref y)) Q E s := by
  unfold tryCompare
  refine wpAny_bind (gd_ifBound_ne X I hn ?_)
  refine wpAny_call (codeAny_call_builtin PySem.F.cmp_object.ne.plain PySem.F.cmpEntry_ne ?_)
  refine check_slot (s := s) PySem.F.cmpKind_ne PySem.F.cmpSplit_ne sub (PySem.F.cmpArgs_ne _ _) ?_
  unfold Builtin.«object.__ne__»
  refine wpAny_bind (m := slotArgs "__ne__" 1 _) (wpAny_pure ?_)
  refine wpAny_bind (wpAny_cRoomFor hu ?_)
  refine wpAny_bind (m := callSpecialIfBound? (.ref x) (Str.ofString "__eq__") [.ref y]) (gd_ifBound_eq X I he ?_)
  refine wpAny_call (codeAny_call_builtin PySem.F.cmp_object.eq.plain PySem.F.cmpEntry_eq ?_)
  refine check_slot (s := s) PySem.F.cmpKind_eq PySem.F.cmpSplit_eq sub (PySem.F.cmpArgs_eq _ _) ?_
  refine objEq_entry_other hxy I.at_ J.at_ (fun z => by rw [I.cls] at z; cases z) ?_
  refine wpAny_pure ?_
  exact wpAny_pure hq
theorem gd_neI_K {Q : Value → Shared → Prop} (hu : A.units + 1 < cLine) (F : Fr h₀ L s.heap m) (X₀ : K.In h₀) (I : InstAt s.heap x ox C od) (J : InstAt s.heap y oy C od') (he : findIn K (.ref C) "__eq__" = some (some (.builtin "object.__eq__")))
    (hn : findIn K (.ref C) "__ne__" = some (some (.builtin "object.__ne__"))) (hsub : subIn K (.ref C) (.type "object") = some true)
    (hq : Q (.bool (!decide (x = y))) s) : wpAny (model prog w) A (richCompare .NotEq (.ref x) (.ref y)) Q E s := by
  have X := X₀.keeps F.keep
  have sub : Looks (model prog w) s.heap (isInstance (.ref x) (.type "object")) true := I.type.andThen (looks_subIn X hsub)
  have suby : Looks (model prog w) s.heap (isInstance (.ref y) (.type "object")) true := J.type.andThen (looks_subIn X hsub)
  unfold richCompare
  simp only [oneThing_ref]
  refine wpAny_holding (wpAny_bind (wpAny_cRoomFor (Nat.lt_of_succ_lt hu) ?_))
  rw [cmpInfo_NotEq]
  dsimp only
  refine wpAny_bind (I.type.here (wpAny_bind (J.type.here ?_)))
  rw [show (Value.ref C != Value.ref C) = false from by simp]
  simp only [Bool.false_eq_true, if_false]
  refine wpAny_bind (wpAny_pure ?_)
  simp only [Bool.false_eq_true, if_false]
  by_cases hxy : x = y
  · subst hxy
    rw [decide_eq_true rfl] at hq
    refine wpAny_bind (gd_tryNe_same (by omega) X I he hn sub ?_)
    first | exact wpAny_pure hq | exact wpAny_pure (wpAny_pure hq)
  · rw [decide_eq_false hxy] at hq
    refine wpAny_bind (gd_tryNe_other (by omega) X I J hxy he hn sub ?_)
    simp only [Bool.not_false, if_true]
    refine wpAny_bind (gd_tryNe_other (by omega) X J I (Ne.symm hxy) he hn suby ?_)
    repeat (first | with_reducible refine wpAny_isSame_ref_other hxy I.at_ J.at_ (fun z => by rw [I.cls] at z; cases z) ?_ | wp_step)
    exact hq
end
end PySem.W
namespace Gd
open PySem PySem.Spec PyProof.Rows L2
structure EqI (K : PySem.W.Frag) (C : Addr) : Prop where
  eq : PySem.W.findIn K (.ref C) "__eq__" = some (some (.builtin "object.__eq__"))
  ne : PySem.W.findIn K (.ref C) "__ne__" = some (some (.builtin "object.__ne__"))
  sub : PySem.W.subIn K (.ref C) (.type "object") = some true
def rNeI (C : Addr) : R2 := fun x y H Q => ∃ a b dx dy fs gs, x = .ref a ∧ y = .ref b ∧ H a = some (.ins C dx fs) ∧ H b = some (.ins C dy gs) ∧ Q (.bl (!decide (a = b))) H
theorem op_neI {X : Cx} {C : Addr} (M : EqI X.K C) {k : Nat} (hr : Room k X.A) : OpR X (compareOp .NotEq) (rNeI C) := by
  intro pins s σ H x y v u Q I rx ry h
  obtain ⟨a, b, dx, dy, fs, gs, rfl, rfl, ea, eb, q⟩ := h
  cases rx
  cases ry
  obtain ⟨mA, J, _⟩ := ins_get I.hok ea
  obtain ⟨mB, J', _⟩ := ins_get I.hok eb
  obtain ⟨od, J, _⟩ := J.look
  obtain ⟨od', J', _⟩ := J'.look
  obtain ⟨m, hF⟩ := I.fr
  show wpAny (model X.prog X.w) X.A (richCompare .NotEq (.ref a) (.ref b)) _ _ s
  refine PySem.W.gd_neI_K (by have := hr.units; omega) hF I.ok.mod.kin J J' M.eq M.ne M.sub ?_
  exact ⟨.bl _, H, I, rfl, q⟩
theorem kNeI {X : Cx} {C : Addr} (K : PySem.W.Frag) (M : EqI K C) {k : Nat} (hr : Room k X.A) (h : X.K = K := by rfl) : OpR X (compareOp .NotEq) (rNeI C) := by subst h; exact op_neI M hr
theorem g2_neI {m : M} {Q : D → M → Prop} {C a b : Addr} {fs gs : List (Str × D)} (i j : Nat) (hi : m[i]? = some (a, MO.ins C fs)) (hj : m[j]? = some (b, MO.ins C gs)) (q : Q (.bl (!decide (a = b))) m) : g2 (rNeI C) (.ref a) (.ref b) m Q := fun H vx vy s r1 r2 Q' k => by
  rw [r1.ref_inv, r2.ref_inv]
  obtain ⟨dx, fs', ea, _⟩ := s.get hi
  obtain ⟨dy, gs', eb, _⟩ := s.get hj
  exact ⟨a, b, dx, dy, _, _, rfl, rfl, ea, eb, k _ H _ m .refl (.bl _) s q⟩
/-! ### a for over a list that is a cell -/
def gforC (xc : Xc) (g : TG) (tb : TS) (E : De) (Z : M → Prop) : List D → Dl → M → Prop
  | [], d, m => Z m ∧ E.nx d m
  | x :: r, d, m => Z m ∧ gg xc g x d m fun d2 m2 => gs xc tb { E with nx := gforC xc g tb E Z r, ct := gforC xc g tb E Z r, bk := E.nx } d2 m2
section
variable {xc : Xc} {d : Dl} {m : M} {Q : D → M → Prop} {E : De} {ta tb te : TE} {tt : TT} {ts : TS} {g : TG} {K : PySem.W.Frag}
theorem gforC_Z {Z : M → Prop} : ∀ {l : List D} {d : Dl} {m : M}, gforC xc g ts E Z l d m → Z m
  | [], _, _, h => h.1
  | _ :: _, _, _, h => h.1
theorem gs_forC {wi : TI} {Z : M → Prop} (h : giC xc wi d m Z fun ds m1 => gforC xc g ts E Z ds d m1) : gs xc (tFor wi g ts) E d m := fun sg H s e E' ok =>
  h sg H s e _ fun J H1 ds m1 s1 t1 it q => by
    refine ⟨fun i n sg' H' => ∃ d' m', Step m1 H1 m' H' ∧ MSat m' H' ∧ ESat xc d' m' sg' H' ∧ i + n = ds.length ∧ gforC xc g ts E Z (ds.drop i) d' m', ⟨ds.length, d, m1, .refl, t1, e.step s1, by omega, q⟩, fun i n sg' H' ⟨d', m', s2, t2, e2, hn, w⟩ => ?_⟩
    obtain ⟨i1, i2⟩ := it i m' H' s2 t2 (gforC_Z w)
    by_cases hi : i < ds.length
    · obtain ⟨go, yl⟩ := i1 hi
      refine .inr ⟨go, fun sg3 H3 => ∃ d3 m3, Step m' H' m3 H3 ∧ MSat m3 H3 ∧ ESat xc d3 m3 sg3 H3 ∧ gforC xc g ts E Z (ds.drop (i + 1)) d3 m3, fun sg3 H3 ⟨d3, m3, s3, t3, e3, w3⟩ => ⟨n - 1, by omega, d3, m3, s2.trans s3, t3, e3, by omega, w3⟩, fun v H2 hy => ?_⟩
      obtain ⟨x, hx, sy, ty, rv⟩ := yl v H2 hy
      have hd : ds.drop i = x :: ds.drop (i + 1) := by
        rw [List.drop_eq_getElem_cons hi]
        rw [List.getElem?_eq_getElem hi] at hx
        rw [Option.some.inj hx]
      rw [hd] at w
      have w := w.2
      refine w v sg' H2 ty (e2.step sy) rv _ fun sg4 H4 d4 m4 s4 t4 e4 q4 => ?_
      refine q4 sg4 H4 t4 e4 _ ⟨fun sg5 H5 d5 m5 s5 t5 e5 q5 => ⟨d5, m5, (sy.trans s4).trans s5, t5, e5, q5⟩, fun v H5 x m5 s5 r5 t5 q5 => ok.rt v H5 x m5 ((s1.trans s2).trans ((sy.trans s4).trans s5)) r5 t5 q5, fun sg5 H5 d5 m5 s5 t5 e5 q5 => ok.nx sg5 H5 d5 m5 ((s1.trans s2).trans ((sy.trans s4).trans s5)) t5 e5 q5, fun sg5 H5 d5 m5 s5 t5 e5 q5 => ⟨d5, m5, (sy.trans s4).trans s5, t5, e5, q5⟩⟩
    · have e0 : i = ds.length := by omega
      refine .inl ⟨i2 e0, ?_⟩
      rw [e0, List.drop_length] at w
      exact ok.nx sg' H' d' m' (s1.trans s2) t2 e2 w.2
theorem gforC_inv {Z : M → Prop} (P : Nat → Dl → M → Prop) (ds : List D) (hz : ∀ i d m, P i d m → Z m) (hs : ∀ (i : Nat) x d m, ds[i]? = some x → P i d m → gg xc g x d m fun d2 m2 => gs xc ts { E with nx := P (i + 1), ct := P (i + 1), bk := E.nx } d2 m2)
    (hd : ∀ d m, P ds.length d m → E.nx d m) (h0 : P 0 d m) : gforC xc g ts E Z ds d m := by
  have mono : ∀ {E1 E2 : De} {t : TS} {d m}, gs xc t E1 d m → (∀ d m, E1.nx d m → E2.nx d m) → (∀ x m, E1.rt x m → E2.rt x m) → (∀ d m, E1.bk d m → E2.bk d m) → (∀ d m, E1.ct d m → E2.ct d m) → gs xc t E2 d m := fun h a b c f sg H s e E' ok =>
    h sg H s e E' ⟨fun sg' H' d' m' s1 t1 e1 q => ok.nx sg' H' d' m' s1 t1 e1 (a _ _ q), fun v H' x m' s1 r1 t1 q => ok.rt v H' x m' s1 r1 t1 (b _ _ q), fun sg' H' d' m' s1 t1 e1 q => ok.bk sg' H' d' m' s1 t1 e1 (c _ _ q), fun sg' H' d' m' s1 t1 e1 q => ok.ct sg' H' d' m' s1 t1 e1 (f _ _ q)⟩
  have all : ∀ (k i : Nat), i + k = ds.length → ∀ d m, P i d m → gforC xc g ts E Z (ds.drop i) d m := by
    intro k
    induction k with
    | zero =>
      intro i hi d m p
      have e0 : i = ds.length := by omega
      subst e0
      rw [List.drop_length]
      exact ⟨hz _ d m p, hd d m p⟩
    | succ k ih =>
      intro i hi d m p
      have hl : i < ds.length := by omega
      rw [List.drop_eq_getElem_cons hl]
      have h := hs i ds[i] d m (List.getElem?_eq_getElem hl) p
      refine ⟨hz _ d m p, ?_⟩
      intro v sg H s e r Q' kk
      refine h v sg H s e r Q' fun sg' H' d' m' s1 t1 e1 q => kk sg' H' d' m' s1 t1 e1 ?_
      exact mono q (fun d m => ih (i + 1) (by omega) d m) (fun _ _ z => z) (fun _ _ z => z) (fun d m => ih (i + 1) (by omega) d m)
  have := all ds.length 0 (by omega) d m h0
  rwa [List.drop_zero] at this
/-! ### cells lent as data -/
def plainD : D → Bool
  | .non | .bl _ | .int _ | .str _ | .ref _ | .ty _ | .scr _ _ => true
  | _ => false
theorem Rep.plain {ok ok' : Addr → Prop} {H : Hp} {x : D} {v : V} (h : plainD x = true) (r : Rep ok H x v) : Rep ok' H x v := by
  cases r with
  | non => exact .non
  | bl b => exact .bl b
  | int i => exact .int i
  | str s => exact .str s
  | ref a => exact .ref a
  | ty n => exact .ty n
  | scr z => exact .scr z
  | _ => cases h
/-- what a slot reads as, if the cells are lent -/
def Lent (m : M) (x y : D) : Prop := x = y ∨ ∃ a ds, x = .ref a ∧ y = .lst ds ∧ (a, MO.lst ds) ∈ m
theorem Rep.off0 {m : M} {H : Hp} {x : D} {v : V} (r : Rep (off m) H x v) : Rep (off []) H x v := r.mono ⟨fun _ _ h => h, fun _ _ _ h => h⟩ fun a u _ h => ⟨List.not_mem_nil, h⟩
theorem Reps.off0 {m : M} {H : Hp} {x : List D} {v : List V} (r : Reps (off m) H x v) : Reps (off []) H x v := r.mono ⟨fun _ _ h => h, fun _ _ _ h => h⟩ fun a u _ h => ⟨List.not_mem_nil, h⟩
theorem Lent.rep {m : M} {H : Hp} {x y : D} {v : V} (s : MSat m H) (h : Lent m x y) (r : Rep (off m) H x v) : Rep (off []) H y v := by
  rcases h with rfl | ⟨a, ds, rfl, rfl, hm⟩
  · exact r.off0
  · obtain ⟨xs, e, rs⟩ := s.all _ hm
    rw [r.ref_inv]
    exact .lst (fun z => nomatch z) e rs.off0
theorem msat_nil {H : Hp} : MSat [] H := ⟨List.nodup_nil, fun _ h => nomatch h⟩
theorem Step.lent {m : M} {H H' : Hp} (s : MSat m H) (t : Step [] H [] H') : Step m H m H' ∧ MSat m H' := by
  have k : ∀ a o, H a = some o → H' a = some o := fun a o h => t.keep a o h fun z => nomatch z
  have st : Step m H m H' := ⟨t.tups, fun a o h _ => k a o h, fun a h => .inl h⟩
  exact ⟨st, s.step st fun a ha => by
    obtain ⟨u, e⟩ := s.there ha
    rw [k a u e, e]⟩
/-- an expression that tells a plain thing and changes nothing, the cells lent to it as data -/
theorem ge_lent {d' : Dl} (hl : d'.length = d.length) (hd : ∀ (i : Nat) y, d'[i]? = some (some y) → ∃ x, d[i]? = some (some x) ∧ Lent m x y) (h : ge ⟨fun _ _ _ => False, xc.Ex⟩ te d' [] fun z m' => m' = [] ∧ plainD z = true ∧ Q z m) : ge xc te d m Q := fun sg H s e Q' k => by
  refine h sg H msat_nil ⟨fun _ _ _ _ _ _ _ _ z => z.elim, hl.trans e.len, fun i y hy => ?_⟩ Q' fun v H' x m' st r t ⟨e1, hp, q⟩ => ?_
  · obtain ⟨x, hx, hv⟩ := hd i y hy
    obtain ⟨v, h1, h2⟩ := e.get i x hx
    exact ⟨v, h1, hv.rep s h2⟩
  · subst e1
    obtain ⟨s1, t1⟩ := st.lent s
    exact k v H' x m s1 (r.plain hp) t1 q
theorem off_perm {m1 m2 : M} (h : m1.Perm m2) (a : Addr) : off m1 a ↔ off m2 a := by
  unfold off dom
  rw [(h.map (·.1)).mem_iff]
theorem MSat.perm {m1 m2 : M} {H : Hp} (h : m1.Perm m2) (s : MSat m1 H) : MSat m2 H :=
  ⟨(h.map (fun p : Addr × MO => p.1)).nodup_iff.mp s.nd, fun p hp => (s.all p (h.mem_iff.mpr hp)).mono ⟨fun _ _ z => z, fun _ _ _ z => z⟩ (fun a u n z => ⟨(off_perm h a).mp n, z⟩) rfl⟩
theorem Step.perm {m1 m2 : M} {H : Hp} (h : m1.Perm m2) : Step m1 H m2 H := ⟨⟨fun _ _ z => z, fun _ _ _ z => z⟩, fun _ _ z _ => z, fun a ha => .inl ((h.map (fun p : Addr × MO => p.1)).mem_iff.mpr ha)⟩
/-- the cells in another order -/
theorem ge_perm (h : ge xc te d m fun x m1 => ∃ m2, m1.Perm m2 ∧ Q x m2) : ge xc te d m Q := fun sg H s e Q' k =>
  h sg H s e Q' fun v H' x m1 s1 r1 t1 ⟨m2, hp, q⟩ => k v H' x m2 (s1.trans (.perm hp)) (r1.step (.perm hp)) (t1.perm hp) q
theorem gs_perm {m2 : M} (hp : m.Perm m2) (h : gs xc ts E d m2) : gs xc ts E d m := fun sg H s e E' ok => h sg H (s.perm hp) (e.step (.perm hp)) E' (ok.step (.perm hp))
theorem glc_cons {x : D} {r acc : List D} {p : Addr} {R : List D → M → Prop} (h : gg xc g x d ((p, .lst acc) :: m) fun d2 m2 => gt xc tt d2 m2 fun b m3 => if b = true then ge xc te d2 m3 fun y m4 => ∃ m', m4 = (p, .lst acc) :: m' ∧ acc.length < 100000 ∧ glc xc g tt te d p R r (acc ++ [y]) m' else ∃ m', m3 = (p, .lst acc) :: m' ∧ glc xc g tt te d p R r acc m') : glc xc g tt te d p R (x :: r) acc m := h
theorem glc_nil {acc : List D} {p : Addr} {R : List D → M → Prop} (h : R acc m) : glc xc g tt te d p R [] acc m := h
end
/-- a row that a slate can have -/
def isSl (x : D) : Bool := isRow x && (match x with | .lst es => es.all fun e => isNum e (-1000000000) 1000000000 | _ => false)
theorem isSl_ints {ns : List Int} (h : SlOk ns) : isSl (intsD ns) = true := by
  unfold isSl
  rw [isRow_ints h.1, Bool.true_and]
  exact all_num h.2
theorem isSl_inv {x : D} (a : Arg x) (h : isSl x = true) : ∃ ns : List Int, x = intsD ns ∧ SlOk ns := by
  unfold isSl at h
  rw [Bool.and_eq_true] at h
  obtain ⟨ns, rfl, hl⟩ := isRow_inv a h.1
  refine ⟨ns, rfl, hl, fun z hz => ?_⟩
  have := List.all_eq_true.mp h.2 (.int z) (List.mem_map.mpr ⟨z, hz, rfl⟩)
  simp only [isNum, Bool.and_eq_true, decide_eq_true_eq] at this
  omega
end Gd

namespace Gd
open PySem PySem.Spec PyProof.Rows L2
/-! ### cells lent as data, within lists too -/
mutual
inductive Lt (m : M) : D → D → Prop
  | refl (x : D) : Lt m x x
  | cell {a : Addr} {ds es : List D} : (a, MO.lst ds) ∈ m → Lts m ds es → Lt m (.ref a) (.lst es)
  | lst {ds es : List D} : Lts m ds es → Lt m (.lst ds) (.lst es)
inductive Lts (m : M) : List D → List D → Prop
  | nil : Lts m [] []
  | cons {x y : D} {ds es : List D} : Lt m x y → Lts m ds es → Lts m (x :: ds) (y :: es)
end
theorem Lts.refl (m : M) : ∀ ds : List D, Lts m ds ds
  | [] => .nil
  | x :: ds => .cons (.refl x) (Lts.refl m ds)
mutual
theorem Lt.rep {m : M} {H : Hp} (s : MSat m H) : ∀ {x y : D} {v : V}, Lt m x y → Rep (off m) H x v → Rep (off []) H y v
  | _, _, _, .refl x, r => r.off0
  | _, _, _, .cell hm h, r => by
    obtain ⟨xs, e, rs⟩ := s.all _ hm
    rw [r.ref_inv]
    exact .lst List.not_mem_nil e (Lts.reps s h rs)
  | _, _, _, .lst h, r => by
    obtain ⟨a, xs, rfl, o, e, rs⟩ := r.lst_inv
    exact .lst List.not_mem_nil e (Lts.reps s h rs)
theorem Lts.reps {m : M} {H : Hp} (s : MSat m H) : ∀ {x y : List D} {v : List V}, Lts m x y → Reps (off m) H x v → Reps (off []) H y v
  | _, _, _, .nil, .nil => .nil
  | _, _, _, .cons h t, .cons r q => .cons (Lt.rep s h r) (Lts.reps s t q)
end
section
variable {xc : Xc} {d : Dl} {m : M} {Q : D → M → Prop} {E : De} {ta tb te : TE} {tt : TT} {ts : TS} {g : TG} {K : PySem.W.Frag}
theorem gt_lent {Q : Bool → M → Prop} {d' : Dl} (hl : d'.length = d.length) (hd : ∀ (i : Nat) y, d'[i]? = some (some y) → ∃ x, d[i]? = some (some x) ∧ Lt m x y) (h : gt ⟨fun _ _ _ => False, xc.Ex⟩ tt d' [] fun b m' => m' = [] ∧ Q b m) : gt xc tt d m Q := fun sg H s e Q' k => by
  refine h sg H msat_nil ⟨fun _ _ _ _ _ _ _ _ z => z.elim, hl.trans e.len, fun i y hy => ?_⟩ Q' fun b H' m' st t ⟨e1, q⟩ => ?_
  · obtain ⟨x, hx, hv⟩ := hd i y hy
    obtain ⟨v, h1, h2⟩ := e.get i x hx
    exact ⟨v, h1, hv.rep s h2⟩
  · subst e1
    obtain ⟨s1, t1⟩ := st.lent s
    exact k b H' m s1 t1 q
/-- one slot lent -/
theorem lent_one {d : Dl} {m : M} (j : Nat) {x y : D} (hx : d[j]? = some (some x)) (h : Lt m x y) : ∀ (i : Nat) z, (d.set j (some y))[i]? = some (some z) → ∃ x, d[i]? = some (some x) ∧ Lt m x z := fun i z hz => by
  by_cases e : j = i
  · subst e
    have hl : j < d.length := (List.getElem?_eq_some_iff.mp hx).1
    rw [List.getElem?_set_self hl] at hz
    cases hz
    exact ⟨x, hx, h⟩
  · rw [List.getElem?_set_ne e] at hz
    exact ⟨z, hz, .refl z⟩
theorem gt_lent1 {Q : Bool → M → Prop} (j : Nat) {x y : D} (hx : d[j]? = some (some x)) (hv : Lt m x y) (h : gt ⟨fun _ _ _ => False, xc.Ex⟩ tt (d.set j (some y)) [] fun b m' => m' = [] ∧ Q b m) : gt xc tt d m Q := gt_lent (by rw [List.length_set]) (lent_one j hx hv) h
end
/-- a comprehension by an invariant, some items already there -/
theorem glc_invA {xc : Xc} {d : Dl} {m : M} {g : TG} {tt : TT} {te : TE} {p : Addr} {R : List D → M → Prop} {acc0 : List D} (P : Nat → List D → M → Prop) (ds : List D)
    (hs : ∀ (i : Nat) x acc m, ds[i]? = some x → P i acc m → gg xc g x d ((p, .lst acc) :: m) fun d2 m2 => gt xc tt d2 m2 fun b m3 => if b = true then ge xc te d2 m3 fun y m4 => ∃ m', m4 = (p, .lst acc) :: m' ∧ acc.length < 100000 ∧ P (i + 1) (acc ++ [y]) m' else ∃ m', m3 = (p, .lst acc) :: m' ∧ P (i + 1) acc m')
    (hd : ∀ acc m, P ds.length acc m → R acc m) (h0 : P 0 acc0 m) : glc xc g tt te d p R ds acc0 m := by
  have all : ∀ (k i : Nat), i + k = ds.length → ∀ acc m, P i acc m → glc xc g tt te d p R (ds.drop i) acc m := by
    intro k
    induction k with
    | zero =>
      intro i hi acc m h
      have e0 : i = ds.length := by omega
      subst e0
      rw [List.drop_length]
      exact hd acc m h
    | succ k ih =>
      intro i hi acc m h
      have hl : i < ds.length := by omega
      rw [List.drop_eq_getElem_cons hl]
      refine (hs i ds[i] acc m (List.getElem?_eq_getElem hl) h).mono fun d2 m2 q => q.mono fun b m3 q => ?_
      cases b with
      | true => exact ge.mono (show ge xc te d2 m3 _ from q) fun y m4 ⟨m', e, hl, q⟩ => ⟨m', e, hl, ih (i + 1) (by omega) _ _ q⟩
      | false =>
        obtain ⟨m', e, q⟩ := (show ∃ m', m3 = (p, .lst acc) :: m' ∧ P (i + 1) acc m' from q)
        exact ⟨m', e, ih (i + 1) (by omega) _ _ q⟩
  have := all ds.length 0 (by omega) acc0 m h0
  rwa [List.drop_zero] at this
/-! ### tables -/
def lenL : D → Nat
  | .lst xs => xs.length
  | _ => 0
def tabRow (h : Nat) (e : D) : Bool := wholes e && (decide (lenL e ≤ 20) && decide (lenL e = h))
def isTable : D → Bool
  | .lst es => decide (es.length ≤ 20) && es.all (tabRow (lenL (es.headD .non)))
  | _ => false
theorem row_tab (h : Nat) (e : D) : (isRow e && (decide (lenL e = h) && decide (lenL e ≤ 20))) = tabRow h e := by
  cases e with
  | lst xs =>
    show ((decide (xs.length ≤ 200) && xs.all whole) && (decide (xs.length = h) && decide (xs.length ≤ 20))) = (xs.all whole && (decide (xs.length ≤ 20) && decide (xs.length = h)))
    by_cases z : xs.length ≤ 20
    · rw [decide_eq_true z, decide_eq_true (show xs.length ≤ 200 by omega)]
      cases xs.all whole <;> cases decide (xs.length = h) <;> rfl
    · rw [decide_eq_false z]
      cases xs.all whole <;> cases decide (xs.length = h) <;> cases decide (xs.length ≤ 200) <;> rfl
  | _ => rfl
theorem all_and {α : Type} (f g : α → Bool) : ∀ xs : List α, (xs.all f && xs.all g) = xs.all fun x => f x && g x
  | [] => rfl
  | x :: xs => by
    rw [List.all_cons, List.all_cons, List.all_cons, ← all_and f g xs]
    cases f x <;> cases g x <;> cases xs.all f <;> cases xs.all g <;> rfl
structure TabOk (rows : List (List Int)) : Prop where
  hi : rows.length ≤ 20
  wi : (rows.headD []).length ≤ 20
  all : ∀ r ∈ rows, r.length = (rows.headD []).length
theorem wholes_inv {xs : List D} (h : xs.all whole = true) (a : ∀ x ∈ xs, Arg x) : ∃ ns : List Int, xs = ns.map D.int := by
  induction xs with
  | nil => exact ⟨[], rfl⟩
  | cons x xs ih =>
    rw [List.all_cons, Bool.and_eq_true] at h
    obtain ⟨i, rfl⟩ := whole_inv (a x List.mem_cons_self) h.1
    obtain ⟨ns, rfl⟩ := ih h.2 fun y hy => a y (List.mem_cons_of_mem _ hy)
    exact ⟨i :: ns, rfl⟩
theorem isTable_inv {x : D} (a : Arg x) (h : isTable x = true) : ∃ rows : List (List Int), x = rowsD rows ∧ TabOk rows := by
  cases x with
  | lst es =>
    have hes : Shs 59 es := by
      rcases a with a | a
      · cases a with | lst h => exact h
      · cases a
    have h : (decide (es.length ≤ 20) && es.all (tabRow (lenL (es.headD .non)))) = true := h
    rw [Bool.and_eq_true, decide_eq_true_eq] at h
    have key : ∀ (w : Nat) (es : List D), Shs 59 es → es.all (tabRow w) = true → ∃ rows : List (List Int), es = rows.map intsD ∧ ∀ r ∈ rows, r.length = w ∧ r.length ≤ 20 := by
      intro w es
      induction es with
      | nil => exact fun _ _ => ⟨[], rfl, fun _ h => nomatch h⟩
      | cons e es ih =>
        intro hs h
        cases hs with | cons h1 h2 =>
        rw [List.all_cons, Bool.and_eq_true] at h
        obtain ⟨rows, rfl, hr⟩ := ih h2 h.2
        have ht := h.1
        unfold tabRow at ht
        rw [Bool.and_eq_true, Bool.and_eq_true, decide_eq_true_eq, decide_eq_true_eq] at ht
        obtain ⟨t1, t2, t3⟩ := ht
        cases e with
        | lst xs =>
          cases h1 with | lst h1 =>
          obtain ⟨ns, rfl⟩ := wholes_inv t1 fun y hy => .inl ((h1.mem hy).le (by decide))
          refine ⟨ns :: rows, rfl, fun r hr' => ?_⟩
          rcases List.mem_cons.mp hr' with rfl | hr'
          · have t2 : (r.map D.int).length ≤ 20 := t2
            have t3 : (r.map D.int).length = w := t3
            rw [List.length_map] at t2 t3
            exact ⟨t3, t2⟩
          · exact hr r hr'
        | _ => cases t1
    obtain ⟨rows, rfl, hr⟩ := key _ es hes h.2
    have hw : lenL ((rows.map intsD).headD .non) = (rows.headD []).length := by
      cases rows with
      | nil => rfl
      | cons r rs => show (r.map D.int).length = r.length; rw [List.length_map]
    rw [hw] at hr
    refine ⟨rows, rfl, by have := h.1; rwa [List.length_map] at this, ?_, fun r h => (hr r h).1⟩
    cases rows with
    | nil => exact Nat.zero_le _
    | cons r rs => exact (hr r List.mem_cons_self).2
  | _ => cases h
theorem isTable_rows {rows : List (List Int)} (h : TabOk rows) : isTable (rowsD rows) = true := by
  show (decide ((rows.map intsD).length ≤ 20) && (rows.map intsD).all (tabRow (lenL ((rows.map intsD).headD .non)))) = true
  have hw : lenL ((rows.map intsD).headD .non) = (rows.headD []).length := by
    cases rows with
    | nil => rfl
    | cons r rs => show (r.map D.int).length = r.length; rw [List.length_map]
  rw [List.length_map, decide_eq_true h.hi, Bool.true_and, hw, List.all_eq_true]
  intro e he
  obtain ⟨r, hr, rfl⟩ := List.mem_map.mp he
  have h1 := h.all r hr
  have h2 := h.wi
  show ((r.map D.int).all whole && (decide ((r.map D.int).length ≤ 20) && decide ((r.map D.int).length = _))) = true
  rw [whole_ints, List.length_map, h1, decide_eq_true h2, decide_eq_true rfl]
  rfl
theorem shRows {n : Nat} (rows : List (List Int)) : Sh (n + 2) (rowsD rows) := .lst (.of_all fun d hd => by obtain ⟨z, _, rfl⟩ := List.mem_map.mp hd; exact shInts z)
def winM (rows : List (List Int)) (c1 c2 : Cut) : List (List Int) := (spanL (spanM c1 rows.length)).map fun i => (spanL (spanM c2 (rows.headD []).length)).map fun j => (rows.getD i.toNat []).getD j.toNat 0
def turnM (rows : List (List Int)) : List (List Int) := (List.range (rows.headD []).length).map fun j => rows.map fun r => r.getD j 0
def tabF (f : Int → Int → Int) (A B : List Int) : List (List Int) := A.map fun i => B.map fun j => f i j
theorem tab_head (f : Int → Int → Int) {A B : List Int} (h : A ≠ []) : ((tabF f A B).headD []).length = B.length := by
  cases A with
  | nil => exact absurd rfl h
  | cons a A => show (B.map fun j => f a j).length = _; rw [List.length_map]
theorem tab_len (f : Int → Int → Int) (A B : List Int) : (tabF f A B).length = A.length := by unfold tabF; rw [List.length_map]
theorem turn_tab (f : Int → Int → Int) {A B : List Int} (h : A ≠ []) : turnM (tabF f A B) = tabF (fun j i => f i j) B A := by
  unfold turnM
  rw [tab_head f h]
  apply List.ext_getElem?
  intro k
  unfold tabF
  rw [List.getElem?_map, List.getElem?_map]
  by_cases hk : k < B.length
  · rw [List.getElem?_range hk, List.getElem?_eq_getElem hk]
    show some (((A.map fun i => B.map fun j => f i j)).map fun r => r.getD k 0) = some (A.map fun i => f i B[k])
    rw [List.map_map]
    congr 1
    apply List.map_congr_left
    intro a _
    show (B.map fun j => f a j).getD k 0 = f a B[k]
    rw [List.getD_eq_getElem?_getD, List.getElem?_map, List.getElem?_eq_getElem hk]
    rfl
  · rw [List.getElem?_eq_none (by rw [List.length_range]; omega), List.getElem?_eq_none (by omega)]
    rfl
theorem rgI_len (n : Int) : (rgI n).length = n.toNat := by unfold rgI; rw [List.length_map, List.length_range]
theorem rgI_get {n : Int} {i : Nat} (h : i < n.toNat) : (rgI n)[i]? = some (i : Int) := by
  unfold rgI
  rw [List.getElem?_map, List.getElem?_range h]
  rfl
theorem win_tab (f : Int → Int → Int) {h w : Int} (h0 : 0 < h) (w0 : 0 ≤ w) {c1 c2 : Cut} (k1 : CutOk c1) (k2 : CutOk c2) : winM (tabF f (rgI h) (rgI w)) c1 c2 = tabF f (spanL (spanM c1 h)) (spanL (spanM c2 w)) := by
  have ne : rgI h ≠ [] := fun e => by have := rgI_len h; rw [e] at this; simp at this; omega
  unfold winM
  rw [tab_head f ne, tab_len, rgI_len, rgI_len, show ((h.toNat : Nat) : Int) = h by omega, show ((w.toNat : Nat) : Int) = w by omega]
  unfold tabF
  apply List.map_congr_left
  intro i hi
  obtain ⟨i0, i1⟩ := (span_in k1 (by omega : 0 ≤ h)).all i hi
  apply List.map_congr_left
  intro j hj
  obtain ⟨j0, j1⟩ := (span_in k2 w0).all j hj
  have e1 : ((rgI h).map fun i => (rgI w).map fun j => f i j).getD i.toNat [] = (rgI w).map fun j => f ((i.toNat : Nat) : Int) j := by
    rw [List.getD_eq_getElem?_getD, List.getElem?_map, rgI_get (by omega)]
    rfl
  rw [e1]
  show ((rgI w).map fun j => f ((i.toNat : Nat) : Int) j).getD j.toNat 0 = f i j
  rw [List.getD_eq_getElem?_getD, List.getElem?_map, rgI_get (by omega)]
  show f ((i.toNat : Nat) : Int) ((j.toNat : Nat) : Int) = f i j
  rw [show ((i.toNat : Nat) : Int) = i by omega, show ((j.toNat : Nat) : Int) = j by omega]
theorem tab_ok (f : Int → Int → Int) {A B : List Int} (ha : A.length ≤ 20) (hb : B.length ≤ 20) : TabOk (tabF f A B) := by
  cases A with
  | nil => exact ⟨Nat.zero_le _, Nat.zero_le _, fun _ h => nomatch h⟩
  | cons a A =>
    have hh := tab_head f (A := a :: A) (B := B) (by simp)
    refine ⟨by rw [tab_len]; exact ha, by rw [hh]; exact hb, fun r hr => ?_⟩
    rw [hh]
    obtain ⟨i, _, rfl⟩ := List.mem_map.mp hr
    rw [List.length_map]
theorem tab_one (f : Int → Int → Int) {A B : List Int} {r : List Int} {rs : List (List Int)} (h : tabF f A B = r :: rs) : A ≠ [] ∧ r.length = B.length := by
  cases A with
  | nil => cases h
  | cons a A => cases h; exact ⟨by simp, by rw [List.length_map]⟩
/-- the first list of a told table is a cell -/
def WinR (m : M) (W : List (List Int)) (x : D) (m' : M) : Prop := (W = [] ∧ x = rowsD [] ∧ m' = m) ∨ ∃ p r rs, W = r :: rs ∧ x = .lst (.ref p :: rs.map intsD) ∧ m' = (p, MO.lst (r.map D.int)) :: m
theorem WinR.lt {m : M} {W : List (List Int)} {x : D} {m' : M} (h : WinR m W x m') : Lt m' x (rowsD W) := by
  rcases h with ⟨rfl, rfl, rfl⟩ | ⟨p, r, rs, rfl, rfl, rfl⟩
  · exact .refl _
  · exact .lst (.cons (.cell List.mem_cons_self (.refl _ _)) (.refl _ _))
end Gd

namespace Gd
open PySem PySem.Spec PyProof.Rows L2
/-! ### pop, max -/
section
variable {X : Cx} (K : PySem.W.Frag)
theorem kBm0 {T : String} {name : Str} {id : String} {r : V → List V → Hp → VK → Prop} {o : Expr} {to : TE} {apos cpos : Pos} (pa : PlainAttrs T) (slot : Slot T name id) (hty : typeOf (.builtin id) = pure (.type "method_descriptor")) (hm : MtR X id r) (ho : PE X o to) (hK : X.K = K := by rfl)
    (hbase : attributeBase o name X.env (eval o X.env) = eval o X.env := by rfl) (hline : (apos.endLine == cpos.line) = true := by rfl) : PE X (.Call (.Attribute o name apos) [] [] cpos) (tBM0 K T r to) := by subst hK; exact pe_bm0 pa slot hty hm ho hbase hline
theorem kMax1 (hc : X.calm = true) (h : X.K = K := by rfl) : CallR X (.builtin "max") (rMax K) := by subst h; exact cr_max hc
end
section
variable {xc : Xc} {d : Dl} {m : M} {Q : D → M → Prop} {E : De} {ta tb te : TE} {tt : TT} {ts : TS} {g : TG} {K : PySem.W.Frag}
theorem ge_pop (h : ge xc te d m fun o m1 => ∃ (a : Addr) (j : Nat) (ds : List D) (y : D), o = .ref a ∧ m1[j]? = some (a, MO.lst (ds ++ [y])) ∧ Q y (m1.set j (a, .lst ds))) : ge xc (tBM0 K "list" rPop te) d m Q := fun sg H s e Q' k =>
  h sg H s e _ fun vo H1 o m1 s1 r1 t1 ⟨a, j, ds, y, ho, hm, q⟩ => by
    subst ho
    obtain ⟨us, ea, ra⟩ := t1.get hm
    have hl : us.length = ds.length + 1 := by rw [← ra.length, List.length_append]; rfl
    obtain ⟨v, hv, rv⟩ := ra.get (i := ds.length) (d := y) (by rw [List.getElem?_append_right (Nat.le_refl _), Nat.sub_self]; rfl)
    refine ⟨?_, a, us, v, r1.ref_inv, rfl, ea, by rw [hl]; exact hv, ?_⟩
    · rw [r1.ref_inv]
      exact .inl ⟨rfl, us, .inl (.inl ea)⟩
    · have rd : Reps (off m1) H1 ds us.dropLast := by
        have := ra.take ds.length
        rw [List.take_left' rfl] at this
        rw [List.dropLast_eq_take, hl]
        exact this
      exact k _ _ y _ (s1.trans (.write t1 hm)) (rv.step (.write t1 hm)) (t1.writeL hm rd) q
theorem gc_max1 {ns : List Int} (hn : ns ≠ []) (q : ∀ x, x ∈ ns → (∀ y ∈ ns, y ≤ x) → Q (.int x) m) : gc (rMax K) [intsD ns] m Q := fun H vs s r Q' k => by
  cases r with | cons r1 r2 =>
  cases r2
  obtain ⟨a, us, rfl, oa, ea, ra⟩ := r1.lst_inv
  have eu := ra.ints_inv
  subst eu
  refine ⟨a, ns, rfl, .inl (.inl ea), List.length_pos_iff.mpr hn, fun x hx hy => k _ H _ m .refl (.int x) s (q x hx hy)⟩
end
theorem g2_addCM {m : M} {Q : D → M → Prop} {K : PySem.W.Frag} {a : Addr} {j : Nat} {xs ys : List D} (hm : m[j]? = some (a, MO.lst xs)) (h : xs.length + ys.length ≤ sizeLine) (q : ∀ p, p ∉ dom m → Q (.ref p) ((p, .lst (xs ++ ys)) :: m)) : g2 (rAddP K) (.ref a) (.lst ys) m Q := g2_r (g2_r (g2_l fun H vx vy s r1 r2 Q' k => by
  obtain ⟨us, ea, ra⟩ := s.get hm
  obtain ⟨b, vs, rfl, ob, eb, rb⟩ := r2.lst_inv
  rw [r1.ref_inv]
  exact ⟨a, b, us, vs, rfl, rfl, ea, eb, by rw [← ra.length, ← rb.length]; exact h, fun p np => k _ _ (.ref p) _ (.cell np) (.ref p) (s.cell np (ra.append rb)) (q p (s.off_new np))⟩))
/-! ### deeds at a slate: what they come to -/
def FitM (row : List Int) (c : Cut) (ts : List Int) : Prop := (endsM c row.length).2.2 ≠ 1 → (spanL (spanM c row.length)).length = ts.length
inductive GiveR (xs : List Int) : D → D → Except Nat (List Int) → Prop
  | cut {a b : D} : Arg a → isCut a = false → isTup a = false → Arg b → GiveR xs a b (.error 0)
  | row {c : Cut} {b : D} : CutOk c → Arg b → (∀ es, b = .lst es → es.length < 100000) → isSl b = false → GiveR xs (cutD c) b (.error 2)
  | many {c : Cut} {ts : List Int} : CutOk c → SlOk ts → (endsM c xs.length).2.2 ≠ 1 → (spanL (spanM c xs.length)).length ≠ ts.length → GiveR xs (cutD c) (intsD ts) (.error 5)
  | long {c : Cut} {ts : List Int} : CutOk c → SlOk ts → FitM xs c ts → 200 < (laidM xs c ts).length → GiveR xs (cutD c) (intsD ts) (.error 2)
  | give {c : Cut} {ts : List Int} : CutOk c → SlOk ts → FitM xs c ts → (laidM xs c ts).length ≤ 200 → GiveR xs (cutD c) (intsD ts) (.ok (laidM xs c ts))
inductive DropR (xs : List Int) : D → Except Nat (List Int) → Prop
  | cut {a : D} : Arg a → isCut a = false → isTup a = false → DropR xs a (.error 0)
  | drop {c : Cut} : CutOk c → DropR xs (cutD c) (.ok (restM xs (spanL (spanM c xs.length))))
inductive PutR (xs : List Int) (cs : List Cut) : D → D → Except Nat (List Int) → Prop
  | place {a b : D} : Arg a → Arg b → isNum a (0 - ((spanL (throughM cs xs.length)).length : Int)) ((spanL (throughM cs xs.length)).length - 1) = false → PutR xs cs a b (.error 7)
  | row {i z : Int} {b : D} : atI (spanL (throughM cs xs.length)) i = some z → Sh 58 b → isNum b (-1000000000) 1000000000 = false → PutR xs cs (.int i) b (.error 2)
  | put {i z v : Int} : atI (spanL (throughM cs xs.length)) i = some z → -1000000000 ≤ v ∧ v ≤ 1000000000 → PutR xs cs (.int i) (.int v) (.ok (xs.set z.toNat v))
theorem atI_num {xs : List Int} {i z : Int} (h : atI xs i = some z) : isNum (.int i) (0 - (xs.length : Int)) (xs.length - 1) = true := by
  unfold L2.atI at h
  cases hi : ixN xs.length i with
  | none => rw [hi] at h; cases h
  | some k => have := ixN_seq hi; exact isNum_of (by omega) (by omega)
theorem num_atI {xs : List Int} {x : D} (h : isNum x (0 - (xs.length : Int)) (xs.length - 1) = true) : ∃ i z, x = .int i ∧ atI xs i = some z := by
  cases x with
  | int i =>
    have h : (decide (0 - (xs.length : Int) ≤ i) && decide (i ≤ (xs.length : Int) - 1)) = true := h
    rw [Bool.and_eq_true, decide_eq_true_eq, decide_eq_true_eq] at h
    refine ⟨i, ?_⟩
    unfold L2.atI ixN
    by_cases h0 : 0 ≤ i
    · rw [if_pos h0, if_pos (by omega)]
      exact ⟨_, rfl, List.getElem?_eq_getElem (by omega)⟩
    · rw [if_neg h0, if_pos (by omega)]
      exact ⟨_, rfl, List.getElem?_eq_getElem (by omega)⟩
  | _ => cases h
theorem giveR_total (xs : List Int) {a b : D} (ha : (∃ c, a = cutD c ∧ CutOk c) ∨ (Arg a ∧ isCut a = false ∧ isTup a = false)) (ab : Arg b) (hb : ∀ es, b = .lst es → es.length < 100000) : ∃ o, GiveR xs a b o := by
  rcases ha with ⟨c, rfl, hc⟩ | ⟨a1, a2, a3⟩
  · cases hs : isSl b with
    | false => exact ⟨_, .row hc ab hb hs⟩
    | true =>
      obtain ⟨ts, rfl, ht⟩ := isSl_inv ab hs
      by_cases hf : FitM xs c ts
      · by_cases hl : (laidM xs c ts).length ≤ 200
        · exact ⟨_, .give hc ht hf hl⟩
        · exact ⟨_, .long hc ht hf (by omega)⟩
      · refine ⟨_, .many hc ht (fun z => hf fun z2 => absurd z z2) (fun z => hf fun _ => z)⟩
  · exact ⟨_, .cut a1 a2 a3 ab⟩
theorem dropR_total (xs : List Int) {a : D} (ha : (∃ c, a = cutD c ∧ CutOk c) ∨ (Arg a ∧ isCut a = false ∧ isTup a = false)) : ∃ o, DropR xs a o := by
  rcases ha with ⟨c, rfl, hc⟩ | ⟨a1, a2, a3⟩
  · exact ⟨_, .drop hc⟩
  · exact ⟨_, .cut a1 a2 a3⟩
theorem putR_total (xs : List Int) (cs : List Cut) {a b : D} (aa : Arg a) (ab : Sh 58 b) : ∃ o, PutR xs cs a b o := by
  cases hn : isNum a (0 - ((spanL (throughM cs xs.length)).length : Int)) ((spanL (throughM cs xs.length)).length - 1) with
  | false => exact ⟨_, .place aa (.inl (ab.le (by decide))) hn⟩
  | true =>
    obtain ⟨i, z, rfl, hz⟩ := num_atI hn
    cases hb : isNum b (-1000000000) 1000000000 with
    | false => exact ⟨_, .row hz ab hb⟩
    | true =>
      cases b with
      | int v =>
        have hb : (decide (-1000000000 ≤ v) && decide (v ≤ 1000000000)) = true := hb
        rw [Bool.and_eq_true, decide_eq_true_eq, decide_eq_true_eq] at hb
        exact ⟨_, .put hz hb⟩
      | _ => cases hb
/-- a deed's row is one that a slate can have -/
theorem settle_allP {P : Int → Prop} : ∀ (ps ts row : List Int), (∀ x ∈ row, P x) → (∀ x ∈ ts, P x) → ∀ x ∈ settleM row ps ts, P x
  | [], _, row, h1, _ => fun x hx => by rw [settleM] at hx; exact h1 x hx
  | _ :: _, [], row, h1, _ => fun x hx => by unfold settleM at hx; exact h1 x hx
  | p :: ps, t :: ts, row, h1, h2 => fun x hx => by
    rw [settleM] at hx
    refine settle_allP ps ts _ (fun y hy => ?_) (fun y hy => h2 y (List.mem_cons_of_mem _ hy)) x hx
    rcases List.mem_or_eq_of_mem_set hy with h | h
    · exact h1 y h
    · rw [h]; exact h2 t List.mem_cons_self
theorem laid_all {P : Int → Prop} {xs ts : List Int} {c : Cut} (h1 : ∀ x ∈ xs, P x) (h2 : ∀ x ∈ ts, P x) : ∀ x ∈ laidM xs c ts, P x := by
  unfold laidM
  split
  · intro x hx
    rcases List.mem_append.mp hx with hx | hx
    · rcases List.mem_append.mp hx with hx | hx
      · exact h1 x (List.mem_of_mem_take hx)
      · exact h2 x hx
    · exact h1 x (List.mem_of_mem_drop hx)
  · exact settle_allP _ _ _ h1 h2
theorem GiveR.sl {xs r : List Int} {a b : D} (h : GiveR xs a b (.ok r)) (hx : SlOk xs) : SlOk r := by
  cases h with
  | give hc ht hf hl => exact ⟨hl, laid_all hx.2 ht.2⟩
theorem DropR.sl {xs r : List Int} {a : D} (h : DropR xs a (.ok r)) (hx : SlOk xs) : SlOk r := by
  cases h with
  | drop hc => exact ⟨Nat.le_trans (restM_len _ _) hx.1, fun x hx' => hx.2 x (restM_sub x hx')⟩
theorem PutR.sl {xs r : List Int} {cs : List Cut} {a b : D} (h : PutR xs cs a b (.ok r)) (hx : SlOk xs) : SlOk r := by
  cases h with
  | put hz hv => exact ⟨by rw [List.length_set]; exact hx.1, fun x hx' => by
      rcases List.mem_or_eq_of_mem_set hx' with h | h
      · exact hx.2 x h
      · rw [h]; exact hv⟩
def outD : Except Nat (List Int) → D
  | .error j => refD j
  | .ok _ => foundD .non
def laterD : Except Nat (List Int) → D
  | .error _ => .non
  | .ok r => intsD r
end Gd

namespace Gd
open PySem PySem.Spec PyProof.Rows L2
/-! ### set(xs), xs a list of ints; sorted(set(xs)) -/
section
variable {P : Program} {w : World} {A : Around} {E : Value → Shared → Prop} {s : Shared}
/-- a new set's object -/
abbrev set0 (w : World) : Obj := { cls := .type "set", dict := none, data := .set #[] 0 (.fresh 0 0 (!w.params.followText "set-order")) }
/-- the heap with a new set -/
abbrev Heap.with0 (h : Heap) (w : World) : Heap := h.push (set0 w)
theorem with0_get (h : Heap) (w : World) : (Heap.with0 h w).get? h.objs.size = some (set0 w) := Heap.get?_push_size _ rfl
theorem call_setL {l : Addr} {xs : Array Value} (ks : List Int) {Q : Value → Shared → Prop} (h0 : A.handled = none) (hx : s.heap.IsList l xs) (hk : IntsAre xs.toList ks) (hs : ks.length + 1 < scanBound)
    (fin : ∀ (g : Heap) (tk n : Nat), SetR w g s.heap.objs.size (fun j => decide (j ∈ ks)) n → n ≤ ks.length → (∀ b o, s.heap.get? b = some o → g.get? b = some o) → Q (.ref s.heap.objs.size) { s with heap := g, toks := tk }) :
    wpAny (model P w) A (call (.type "set") [.ref l]) Q E s := by
  have size : xs.size = ks.length := (Array.length_toList (xs := xs)).symm.trans hk.length
  obtain ⟨_, _, mro⟩ := F.called_set.mro
  have made := F.called_set.made
  have sub := F.called_set.sub
  have nt := F.called_set.notType
  have cc := F.called_set.canCreate
  have tc := F.typeCall_set_1 (.ref l)
  refine wpAny_call (codeAny_of_tree ?_)
  show wpAny _ _ (callAny (.type "set") ⟨[.ref l], []⟩) _ _ _
  refine wpAny_pure ⟨Code.quiet_builtin _ (by decide +kernel), codeAny_builtin F.entry_type_call ?_⟩
  rw [Around.under_plain (weight_type_call_type "set" [.ref l] []) rfl]
  repeat (any_goals (first | assumption | wp_step))
  refine codeAny_mono (code_set_led1 (.ref l) (E := E) (Q₁ := fun o g => o = .ref s.heap.objs.size ∧ g = { s with heap := Heap.with0 s.heap w }) ⟨rfl, rfl⟩) fun r g hr => ?_
  cases r with
  | error _ => exact hr
  | ok f =>
    cases f with
    | ret o =>
      obtain ⟨rfl, rfl⟩ := hr
      have at0 := with0_get s.heap w
      have ty : Shared.TypeIs { s with heap := Heap.with0 s.heap w } (.ref s.heap.objs.size) "set" := ⟨_, at0, rfl⟩
      have il := F.called_set.init.lookup
      have ib := F.called_set.init.bind (.ref s.heap.objs.size)
      repeat (any_goals (first | assumption | wp_step))
      refine codeAny_mono (codeAny_call_builtin (R := wants (fun r g => r = .none ∧ ∃ h tk n, g = { s with heap := h, toks := tk } ∧ SetR w h s.heap.objs.size (fun j => decide (j ∈ ks)) n ∧ n ≤ ks.length ∧ ∀ b o, s.heap.get? b = some o → h.get? b = some o) E) F.called_set.init.plain F.entry_set_init (check_set_init_1 ty ?_)) fun r g hr => ?_
      · obtain ⟨⟨_, od, _, os⟩, ho, rfl, nl, rfl⟩ := hx
        have ho1 : (Heap.with0 s.heap w).get? l = some { cls := .type "list", dict := od, data := .seq xs nl, slots := os } := Heap.get?_push_of_some _ ho
        have s1 := F.sub_list_set
        have s2 := F.sub_list_frozenset
        have s3 : (Value.type "list" == Value.type "dict") = false := by decide
        have li : (Heap.with0 s.heap w).IsList l xs := ⟨_, ho1, rfl, nl, rfl⟩
        unfold Builtin.«set.__init__» noKeywords Builtin.Frozenset.updateFrom
        generalize hPI : pyIter = PI
        wp_walk
        subst hPI
        refine wpAny_pyIter_list li (wpAny_bind (wpAny_runValue ?_))
        have lt : l < s.heap.objs.size := Heap.lt_size ho
        have sz : (Heap.with0 s.heap w).objs.size = s.heap.objs.size + 1 := Heap.size_push ..
        have notin : s.heap.objs.size ∉ [(Heap.with0 s.heap w).objs.size, l] := fun z => by
          rw [sz] at z
          rcases List.mem_cons.mp z with z | z
          · exact absurd z (Nat.ne_of_lt (Nat.lt_succ_self _))
          · exact absurd (List.mem_singleton.mp z) (Nat.ne_of_gt lt)
        refine set_update_ints (Walks.list (show A.in1.in1.in1.handled = none by simp [h0]) _ l (show l ≠ (Heap.with0 s.heap w).objs.size by rw [sz]; exact Nat.ne_of_lt (Nat.lt_succ_of_lt lt)) xs).toS s.heap.objs.size notin ks size hs (fun i v hv => ?_) (xs.size - 0) 0 _ rfl (Nat.zero_le _) ⟨⟨_, Heap.get?_push_size _ rfl, rfl, rfl⟩, li.push _⟩ ⟨0, Nat.le_refl 0, setR_new_at (Heap.get?_push_of_some _ at0)⟩ fun g n hm hn hS => ?_
        · have hi : i < ks.length := size ▸ (Array.getElem?_eq_some_iff.mp hv).1
          obtain ⟨t, e⟩ := IntsAre.int_at hk i v (by rw [Array.getElem?_toList]; exact hv)
          exact ⟨ks[i], t, List.getElem?_eq_getElem hi, by rw [e, List.getD_eq_getElem?_getD, List.getElem?_eq_getElem hi] <;> rfl⟩
        · obtain ⟨gh, gg, gd, gt, go⟩ := g
          obtain rfl : gg = s.gens := hm.gens
          obtain rfl : gd = s.drawn := hm.drawn
          obtain rfl : go = s.os := hm.os
          show wpAny _ _ _ _ _ _
          refine wpAny_pure ?_
          show wpAny _ _ (ret Value.none) _ _ _
          refine wpAny_pure ⟨rfl, gh, gt, n, rfl, hS, size ▸ hn, fun b o e => ?_⟩
          have hb := Heap.lt_size e
          refine hm.heap b o (fun z => ?_) (Heap.get?_push_of_some _ (Heap.get?_push_of_some _ e))
          rcases List.mem_cons.mp z with z | z
          · exact absurd z (Nat.ne_of_lt hb)
          · have z := List.mem_singleton.mp z
            rw [sz] at z
            exact absurd z (Nat.ne_of_lt (Nat.lt_succ_of_lt hb))
      · cases r with
        | error _ => exact hr
        | ok f =>
          cases f with
          | ret _ =>
            obtain ⟨rfl, h, tk, n, rfl, hS, hn, hk'⟩ := hr
            repeat (any_goals (first | assumption | wp_step))
            exact fin _ _ _ hS hn hk'
          | _ => exact hr.elim
    | _ => exact hr.elim
end
section
variable {X : Cx}
/-- set(xs): n is how many unlike ones there are -/
def rSetL (K : PySem.W.Frag) (w : World) : List V → Hp → VK → Prop := fun xs H Q => ∃ (l : Addr) (ks : List Int), xs = [V.ref l] ∧ SqL K H l (ks.map V.int) ∧ ks.length ≤ 4000 ∧
  ∀ (p : Addr) (n : Nat), (∃ ms : List Int, ms.Nodup ∧ ms.length = n ∧ ∀ x, x ∈ ms ↔ x ∈ ks) → H p = none → Q (.ref p) (upd H p (SetO w p (fun j => decide (j ∈ ks)) n))
theorem setR_count {w : World} {h : Heap} {a : Addr} {ks : List Int} {n : Nat} (R : SetR w h a (fun j => decide (j ∈ ks)) n) : ∃ ms : List Int, ms.Nodup ∧ ms.length = n ∧ ∀ x, x ∈ ms ↔ x ∈ ks := by
  obtain ⟨o, es, ep, t, ho, hex, hd, g, nd, hm, hb, hf, hn, _⟩ := R
  refine ⟨es.toList.map keyOf, nd, by rw [List.length_map, Array.length_toList]; exact hn, fun x => ?_⟩
  rw [← hm x]
  exact decide_eq_true_iff
theorem cr_setL (hc : X.calm = true) : CallR X (.type "set") (rSetL X.K X.w) := by
  intro pins s σ H vs us Q I r h
  obtain ⟨l, ks, rfl, hq, hl, q⟩ := h
  rw [Vals.ref1 r]
  obtain ⟨its, rv, pl, hz⟩ := I.list hq
  refine call_setL ks (I.ok.hd hc) pl.isList (by simpa using rv.ints) (by unfold scanBound; omega) fun g tk n R hn k => ?_
  exact ⟨.ref _, _, I.laid k (Nat.le_refl _) (setO_new R), rfl, q _ n (setR_count R) (I.hok.fresh (Nat.le_refl _))⟩
theorem kSetL (K : PySem.W.Frag) (w : World) (hc : X.calm = true) (h : X.K = K := by rfl) (hw : X.w = w := by rfl) : CallR X (.type "set") (rSetL K w) := by subst h; subst hw; exact cr_setL hc
theorem kSortedSet (w : World) (hc : X.calm = true) (hw : X.w = w := by rfl) : CallR X (.builtin "sorted") (rSortedSet w) := by subst hw; exact cr_sortedSet hc
/-- sorted(set(xs)) -/
def tSortSet (K : PySem.W.Frag) (w : World) (ta : TE) : TE := tCB (rSortedSet w) (tCons (tCB (rSetL K w) (tCons ta tNil)) tNil)
theorem ge_sortSet {xc : Xc} {d : Dl} {m : M} {Q : D → M → Prop} {ta : TE} {K : PySem.W.Frag} {w : World} (h : ge xc ta d m fun x m1 => ∃ ks : List Int, x = intsD ks ∧ ks.length ≤ 4000 ∧ (∀ ms : List Int, ms.Nodup → (∀ x ∈ ms, x ∈ ks) → ms.length < 64) ∧ ∀ so : List Int, so.Pairwise (· < ·) → (∀ x, x ∈ so ↔ x ∈ ks) → Q (intsD so) m1) : ge xc (tSortSet K w ta) d m Q := fun sg H s e Q' k => by
  refine h sg H s e _ fun v H1 x m1 s1 r1 t1 ⟨ks, hx, hl, hc, q⟩ => ?_
  subst hx
  obtain ⟨a, xs, rfl, _, ea, ra⟩ := r1.lst_inv
  have ex := Reps.ints_inv ra
  subst ex
  refine ⟨a, ks, rfl, .inl (.inl ea), hl, fun p n ⟨ms, nd, hn, hm⟩ np => ?_⟩
  refine ⟨p, _, n, rfl, upd_same, hn ▸ hc ms nd (fun x hx => (hm x).mp hx), fun so p2 hs1 hs2 _ np2 => ?_⟩
  have hs2' : ∀ x, x ∈ so ↔ x ∈ ks := fun x => (hs2 x).trans decide_eq_true_iff
  exact k _ _ (intsD so) m1 ((s1.trans (.fresh np)).trans (.fresh np2)) (.lst ((t1.fresh np).off_new np2) upd_same (Reps.ints so)) ((t1.fresh np).fresh np2) (q so hs1 hs2')
end
end Gd

namespace Gd
open PySem PySem.Spec PyProof.Rows L2
/-! ### a rule of OpenK's that lays one new object: all other objects are handed to it as known ones -/
section
variable {X : Cx} {pins : List (Addr × Obj)} {σ : L2.St} {H : Hp} {s : Shared}
def allNews (b0 : Heap) (L : Addr) (h : Heap) : List (Addr × Obj) := (List.range h.objs.size).filterMap fun b => if b = L then none else match b0.get? b, h.get? b with
  | none, some o => some (b, o)
  | _, _ => none
theorem mem_allNews {b0 h : Heap} {L : Addr} {p : Addr × Obj} : p ∈ allNews b0 L h ↔ h.get? p.1 = some p.2 ∧ p.1 ≠ L ∧ b0.get? p.1 = none := by
  unfold allNews
  rw [List.mem_filterMap]
  constructor
  · rintro ⟨b, hb, e⟩
    by_cases z : b = L
    · rw [if_pos z] at e; cases e
    · rw [if_neg z] at e
      cases e1 : b0.get? b with
      | some o => rw [e1] at e; cases e
      | none =>
        cases e2 : h.get? b with
        | none => rw [e1, e2] at e; cases e
        | some o =>
          rw [e1, e2] at e
          cases e
          exact ⟨e2, z, e1⟩
  · rintro ⟨h1, h2, h3⟩
    refine ⟨p.1, List.mem_range.mpr (Heap.lt_size h1), ?_⟩
    rw [if_neg h2, h3, h1]
theorem Inv.news {m : Str → Option Value} (I : Inv X pins σ H s) (hn : s.heap.Ns X.env.locals m) : Fr X.base X.env.locals s.heap m ∧ News X.base X.env.locals s.heap (allNews X.base X.env.locals s.heap) :=
  ⟨⟨hn, I.bk, Nat.le_trans I.ok.bsz I.ok.above⟩, fun p hp => mem_allNews.mp hp⟩
/-- the new object is tracked -/
theorem Inv.newsLaid {m : Str → Option Value} {D : Addr} {o : Obj} {u : HO} {h' : Heap} {tk : Nat} (I : Inv X pins σ H s) (hn : s.heap.Ns X.env.locals m) (F : Fr X.base X.env.locals h' m) (N : News X.base X.env.locals h' ((D, o) :: allNews X.base X.env.locals s.heap))
    (hD : ∀ q ∈ allNews X.base X.env.locals s.heap, q.1 < D) (new : ObjOk X.prog X.w (upd H D u) h' D u) : H D = none ∧ Inv X pins σ (upd H D u) { s with heap := h', toks := tk } := by
  obtain ⟨d1, d2, d3⟩ := N _ List.mem_cons_self
  have old : ∀ b o, s.heap.get? b = some o → b ≠ X.env.locals → h'.get? b = some o := fun b o e ne => by
    cases eb : X.base.get? b with
    | some o' =>
      have e2 := I.bk b o' eb
      rw [e] at e2
      cases e2
      exact F.keep b _ eb
    | none => exact (N (b, o) (List.mem_cons_of_mem _ (mem_allNews.mpr ⟨e, ne, eb⟩))).1
  have fresh : s.heap.get? D = none := by
    cases e : s.heap.get? D with
    | none => rfl
    | some o' => exact absurd (hD (D, o') (mem_allNews.mpr ⟨e, d2, d3⟩)) (Nat.lt_irrefl _)
  have un : H D = none := by
    cases e : H D with
    | none => rfl
    | some u =>
      obtain ⟨o', e'⟩ := objOk_get (I.hok D u e)
      rw [fresh] at e'
      cases e'
  have nD : ∀ {b : Addr} {o : Obj}, s.heap.get? b = some o → b ≠ D := fun {b o} e z => by rw [z, fresh] at e; cases e
  have tD : ∀ {b : Addr} {u : HO}, H b = some u → b ≠ D := fun {b u} e z => by rw [z, un] at e; cases e
  refine ⟨un, I.step (g' := s.gens) (d' := s.drawn) (ch := []) (fun _ z => nomatch z) (fun b o ne _ _ e _ => old b o e ne) (fun b o ne _ _ e _ => ⟨o.slots, old b o e ne⟩) (fun b o _ e n => by rw [upd_ne (nD e)]; exact n) (fun b o _ e => ?_)
    (fun b xs e => by rw [upd_ne (tD e)]; exact e) (fun b o u e => by rw [upd_ne (tD e)]; exact e) (fun b ps e => ⟨#[], by rw [upd_ne (tD e), Array.append_empty]; exact e⟩) (fun m' hm' => ?_) (fun b u e => ?_) I.bare⟩
  · by_cases z : b = X.env.locals
    · obtain ⟨oL, _, _, e2, _⟩ := F.ns
      exact ⟨oL, z ▸ e2⟩
    · exact ⟨o, old b o e z⟩
  · obtain ⟨o1, es1, ep1, a1, a2, a3, a4⟩ := hn
    obtain ⟨o2, es2, ep2, b1, b2, b3, b4⟩ := hm'
    rw [a1] at b1
    cases b1
    rw [a2] at b2
    cases b2
    have : m' = m := funext fun x => (b4 x).symm.trans (a4 x)
    rw [this]
    exact F.ns
  · by_cases z : b = D
    · subst z
      rw [upd_same] at e
      cases e
      exact new
    · rw [upd_ne z] at e
      have nL : ∀ {c : Addr} {v : HO}, H c = some v → c ≠ X.env.locals := fun {c v} e z => by rw [z, I.free] at e; cases e
      refine (I.hok b u e).stay (fun c v hc q => old c v q ?_) (fun c q => by rw [upd_ne (tD q)]; exact q) fun c xs q => by rw [upd_ne (tD q)]; exact q
      rcases hc with hc | hc
      · rw [hc]; exact nL e
      · exact nL hc
/-- sorted(xs, key=abs) of ints: a new list of the same, in some order -/
def tSortAbs (K : PySem.W.Frag) (ta : TA) : TE := fun σ H Q => ta σ H fun vs H1 => ∃ (l : Addr) (ks : List Int), vs = [V.ref l] ∧ SqL K H1 l (ks.map V.int) ∧ ks.length ≤ 4000 ∧ ∀ (so : List Int) (p : Addr), so.Perm ks → H1 p = none → Q (.ref p) (upd H1 p (.lst (so.map V.int)))
theorem pe_sortAbs {e : Expr} {ta : TA} {p q pos kpos : Pos} (hg : Gl X "sorted") (hm : X.mg "sorted" = none) (hg2 : Gl X "abs") (hm2 : X.mg "abs" = none) (ha : PA X [e] ta)
    (hs : backTo pos (starEach [e] X.env) = (false, eval e X.env) :: backTo pos (starEach [] X.env) := by rfl) (hpl : (backTo pos (starEach [e] X.env)).any (·.1) = false := by rfl) :
    PE X (.Call (.Name "sorted" p) [e] [⟨some "key", .Name "abs" q, kpos⟩] pos) (tSortAbs X.K ta) := by
  refine ⟨fun pins s σ H Q I h => ?_⟩
  refine wpAny_Call_Name_kw (ld_blt I hg hm PyProof.Rows.boot_sorted ?_)
  refine PyProof.Rows.callWith_kw (thn (ha.run pos pins s σ H _ I h) fun us s1 ⟨vs, H1, I1, r1, q1⟩ => ?_) hs hpl rfl rfl
  show wpAny _ _ (evalAll [(do let v ← eval (.Name "abs" q) X.env; standAt pos; pure v)]) _ _ s1
  refine wpAny_evalAll_cons (wpAny_bind (ld_blt I1 hg2 hm2 PyProof.Rows.boot_abs (wpAny_bind (wpAny_standAt (wpAny_pure (wpAny_evalAll_nil ?_))))))
  obtain ⟨l, ks, rfl, hq, hl, k⟩ := q1
  rw [Vals.ref1 r1]
  obtain ⟨its, rv, pl, hz⟩ := I1.list hq
  obtain ⟨m, hn, _⟩ := I1.loc
  obtain ⟨F, N⟩ := Inv.news I1 hn
  have hi : IntsAre its ks := by simpa using rv.ints
  show wpAny _ _ (call (.builtin "sorted") [.ref l] [(Str.ofString "key", .builtin "abs")]) _ _ s1
  refine ksk_letterAny (b := false) (fun i => if i < 0 then -i else i) F N pl.isList hi (by rw [sizeLine_eq]; omega) (ksk_s1 _ _) (fun x => ksk_l1 _ _) (fun x => ksk_t4 _ _) (fun n t h tk own hn F1 N1 => ?_) fun D vs' ns' c h' tk F' N' lt hi' hlen hp _ _ => ?_
  · exact call_abs_int fun u tk' => KskEnd.intro F1 N1 fun p hp => hp
  · obtain ⟨un, J⟩ := Inv.newsLaid (tk := tk) (u := .lst (ns'.map V.int)) I1 hn F' N' lt ⟨by rw [List.length_map, hlen, sizeLine_eq]; omega, vs', c, vals_of_ints hi', (N' _ List.mem_cons_self).1⟩
    exact ⟨.ref D, _, J, rfl, k ns' D hp un⟩
end
theorem kSortAbs {X : Cx} (K : PySem.W.Frag) {e : Expr} {ta : TA} {p q pos kpos : Pos} (hg : Gl X "sorted") (hm : X.mg "sorted" = none) (hg2 : Gl X "abs") (hm2 : X.mg "abs" = none) (ha : PA X [e] ta) (h : X.K = K := by rfl)
    (hs : backTo pos (starEach [e] X.env) = (false, eval e X.env) :: backTo pos (starEach [] X.env) := by rfl) (hpl : (backTo pos (starEach [e] X.env)).any (·.1) = false := by rfl) :
    PE X (.Call (.Name "sorted" p) [e] [⟨some "key", .Name "abs" q, kpos⟩] pos) (tSortAbs K ta) := by subst h; exact pe_sortAbs hg hm hg2 hm2 ha hs hpl
theorem ge_sortAbs {xc : Xc} {d : Dl} {m : M} {Q : D → M → Prop} {ta : TA} {K : PySem.W.Frag} (h : ga xc ta d m fun xs m1 => ∃ ks : List Int, xs = [intsD ks] ∧ ks.length ≤ 4000 ∧ ∀ so : List Int, so.Perm ks → Q (intsD so) m1) : ge xc (tSortAbs K ta) d m Q := fun sg H s e Q' k => by
  refine h sg H s e _ fun v H1 x m1 s1 r1 t1 ⟨ks, hx, hl, q⟩ => ?_
  subst hx
  cases r1 with | cons r1 r2 =>
  cases r2
  obtain ⟨a, xs, rfl, _, ea, ra⟩ := r1.lst_inv
  have ex := Reps.ints_inv ra
  subst ex
  exact ⟨a, ks, rfl, .inl (.inl ea), hl, fun so p hp np => k _ _ (intsD so) m1 (s1.trans (.fresh np)) (.lst (t1.off_new np) upd_same (Reps.ints so)) (t1.fresh np) (q so hp)⟩
end Gd

namespace Gd
open PySem PySem.Spec PyProof.Rows L2
/-! ### one cut that does what a small chain does -/
theorem oi_inj {a b : Option Int} (h : oi a = oi b) : a = b := by
  cases a with
  | none => cases b with
    | none => rfl
    | some j => cases h
  | some i => cases b with
    | none => cases h
    | some j => injection h with h; rw [h]
theorem cutD_inj {a b : Cut} (h : cutD a = cutD b) : a = b := by
  obtain ⟨a1, a2, a3⟩ := a
  obtain ⟨b1, b2, b3⟩ := b
  injection h with h
  injection h with h1 h
  injection h with h2 h
  injection h with h3 _
  have e1 : a1 = b1 := oi_inj h1
  have e2 : a2 = b2 := oi_inj h2
  have e3 : a3 = b3 := oi_inj h3
  rw [e1, e2, e3]
theorem chains_inj : ∀ {a b : List Cut}, a.map cutD = b.map cutD → a = b
  | [], [], _ => rfl
  | [], _ :: _, h => by cases h
  | _ :: _, [], h => by cases h
  | x :: a, y :: b, h => by
    injection h with h1 h2
    rw [cutD_inj h1, chains_inj h2]
theorem isCuts_chain {a b : List Cut} (h : chainD a = chainD b) : a = b := by
  injection h with h
  exact chains_inj h
/-- list(range(a, b)) -/
def rgI2 (a b : Int) : List Int := (List.range (b - a).toNat).map fun i : Nat => a + (i : Int)
theorem ge_listRg2 {xc : Xc} {d : Dl} {m : M} {Q : D → M → Prop} {ta tb : TE} (h : ge xc ta d m fun x m1 => ge xc tb d m1 fun y m2 => ∃ i j : Int, x = .int i ∧ y = .int j ∧ (-100000 ≤ i ∧ i ≤ j ∧ j ≤ 100000) ∧ Q (intsD (rgI2 i j)) m2) : ge xc (tLstRg (tRg2 ta tb)) d m Q := fun sg H s e Q' k =>
  h sg H s e _ fun v H1 x m1 s1 r1 t1 h1 => h1 sg H1 t1 (e.step s1) _ fun u H2 y m2 s2 r2 t2 ⟨i, j, hx, hy, ⟨b1, b2, b3⟩, q⟩ => by
    subst hx
    subst hy
    refine ⟨i, j, r1.int_inv, r2.int_inv, ⟨by omega, by omega, by omega, by omega, by omega⟩, fun p np => ?_⟩
    have e : rgV i j = (rgI2 i j).map V.int := by
      unfold rgV rgI2
      rw [List.map_map]
      rfl
    rw [e]
    exact k _ _ (intsD (rgI2 i j)) m2 ((s1.trans s2).trans (.fresh np)) (.lst (t2.off_new np) upd_same (Reps.ints _)) (t2.fresh np) q
theorem edge16_up {o : Option Int} (h : smallB o 16 = true) (pl : Int → Int) (hp : (∀ n, pl n = 0) ∨ ∀ n, pl n = n) : ∃ β t : Int, (t = 0 ∨ t = 1) ∧ -16 ≤ β ∧ β ≤ 16 ∧ ∀ n : Int, 40 ≤ n → edgeM o n (pl n) 0 n = β + t * n := by
  cases o with
  | none =>
    rcases hp with hp | hp
    · exact ⟨0, 0, .inl rfl, by omega, by omega, fun n hn => by show pl n = _; rw [hp]; omega⟩
    · exact ⟨0, 1, .inr rfl, by omega, by omega, fun n hn => by show pl n = _; rw [hp]; omega⟩
  | some x =>
    obtain ⟨h1, h2⟩ := smallB_b h rfl
    by_cases z : x < 0
    · refine ⟨x, 1, .inr rfl, by omega, by omega, fun n hn => ?_⟩
      rw [edge_mid (k := x + n) (by rw [if_pos z]) (by omega) (by omega)]
      omega
    · refine ⟨x, 0, .inl rfl, by omega, by omega, fun n hn => ?_⟩
      rw [edge_mid (k := x) (by rw [if_neg z]) (by omega) (by omega)]
      omega
theorem edge16_down {o : Option Int} (h : smallB o 16 = true) (pl : Int → Int) (hp : (∀ n, pl n = -1) ∨ ∀ n, pl n = n - 1) : ∃ β t : Int, (t = 0 ∨ t = 1) ∧ -16 ≤ β ∧ β ≤ 16 ∧ ∀ n : Int, 40 ≤ n → edgeM o n (pl n) (-1) (n - 1) = β + t * n := by
  cases o with
  | none =>
    rcases hp with hp | hp
    · exact ⟨-1, 0, .inl rfl, by omega, by omega, fun n hn => by show pl n = _; rw [hp]; omega⟩
    · exact ⟨-1, 1, .inr rfl, by omega, by omega, fun n hn => by show pl n = _; rw [hp]; omega⟩
  | some x =>
    obtain ⟨h1, h2⟩ := smallB_b h rfl
    by_cases z : x < 0
    · refine ⟨x, 1, .inr rfl, by omega, by omega, fun n hn => ?_⟩
      rw [edge_mid (k := x + n) (by rw [if_pos z]) (by omega) (by omega)]
      omega
    · refine ⟨x, 0, .inl rfl, by omega, by omega, fun n hn => ?_⟩
      rw [edge_mid (k := x) (by rw [if_neg z]) (by omega) (by omega)]
      omega
/-- goes on by eights from 94 on -/
def Go (F : Int → Spn) (D M : Int) : Prop := ∀ l : Int, 94 ≤ l → F (l + 8) = ((F l).1 + D, (F l).2.1, (F l).2.2 + M)
theorem goes_none {F : Int → Spn} (h : ∀ l : Int, 94 ≤ l → F l = (0, 1, 0)) : Go F 0 0 := fun l hl => by
  rw [h l hl, h (l + 8) (by omega)]
  rfl
theorem go_same {F : Int → Spn} {β t s k : Int} (h : ∀ l : Int, 94 ≤ l → F l = plainM (β + t * l) s k) : ∃ D M, Go F D M := by
  by_cases hk : k < 1
  · exact ⟨0, 0, goes_none fun l hl => by rw [h l hl, plain_zero _ _ hk]⟩
  · refine ⟨t * 8, 0, fun l hl => ?_⟩
    rw [h l hl, h (l + 8) (by omega), plain_pos _ _ (by omega), plain_pos _ _ (by omega)]
    show (β + t * (l + 8), _, k) = (β + t * l + t * 8, _, k + 0)
    rw [Int.mul_add, Int.add_zero, Int.add_assoc]
theorem go_more {F : Int → Spn} {β t s w far q : Int} (hw : 0 < w) (hw8 : w ≤ 8) (hq : 8 = w * q) (hf : -40 ≤ far) (h : ∀ l : Int, 94 ≤ l → F l = plainM (β + t * l) s ((far + l + w - 1).fdiv w)) : ∃ D M, Go F D M := by
  refine ⟨t * 8, q, fun l hl => ?_⟩
  have e : (far + (l + 8) + w - 1).fdiv w = (far + l + w - 1).fdiv w + q := by
    obtain ⟨a, r, h1, h2, h3, h4, -⟩ := fdiv_split (far + l + w - 1) hw
    rw [h4]
    refine fdiv_is hw (r := r) ?_ h2 h3
    rw [Int.mul_add, ← hq]
    omega
  have big : 2 ≤ (far + l + w - 1).fdiv w := by
    obtain ⟨n, h1, -, h3⟩ := steps_of (far + l) hw
    rw [h1]
    obtain ⟨k1, k2, k3, -, -⟩ := h3 (by omega)
    by_cases z : 2 ≤ n
    · exact z
    · have : w * n ≤ w * 1 := Int.mul_le_mul_of_nonneg_left (by omega) (by omega)
      omega
  have q0 : 0 < q := by
    by_cases z : 0 < q
    · exact z
    · have : w * q ≤ w * 0 := Int.mul_le_mul_of_nonneg_left (by omega) (by omega)
      omega
  rw [h l hl, h (l + 8) (by omega), e, plain_two _ _ (by omega), plain_two _ _ (by omega)]
  show (β + t * (l + 8), s, (far + l + w - 1).fdiv w + q) = (β + t * l + t * 8, s, (far + l + w - 1).fdiv w + q)
  rw [show β + t * (l + 8) = β + t * l + t * 8 by rw [Int.mul_add, Int.add_assoc]]
theorem wide_go {b e st : Option Int} {s : Int} (hb : smallB b 16 = true) (he : smallB e 16 = true) (hs : st.getD 1 = s) (h0 : s ≠ 0) (h8 : -8 ≤ s ∧ s ≤ 8) (hd : (∃ q, 8 = s * q) ∨ (spanM (b, e, st) 139).2.2 ≤ 1) : ∃ D M, Go (spanM (b, e, st)) D M := by
  by_cases hp : 0 < s
  · have hE : ∀ n : Int, endsM (b, e, st) n = (edgeM b n 0 0 n, edgeM e n n 0 n, s) := fun n => by
      cases st with
      | none =>
        have : s = 1 := hs.symm
        subst this
        rfl
      | some x =>
        have : x = s := hs
        subst this
        simp only [endsM, if_pos hp]
    obtain ⟨β, t, ht, b1, b2, hβ⟩ := edge16_up hb (fun _ => 0) (.inl fun _ => rfl)
    obtain ⟨ε, u, hu, e1, e2, hε⟩ := edge16_up he (fun n => n) (.inr fun _ => rfl)
    have hF : ∀ n : Int, 40 ≤ n → spanM (b, e, st) n = plainM (β + t * n) s ((ε + u * n - (β + t * n) + s - 1).fdiv s) := fun n hn => by
      unfold spanM
      rw [hE n, hβ n hn, hε n hn]
      show (if 0 < s then _ else _) = _
      rw [if_pos hp]
    rcases ht with rfl | rfl <;> rcases hu with rfl | rfl
    · exact go_same (β := β) (t := 0) (s := s) (k := (ε - β + s - 1).fdiv s) fun l hl => by rw [hF l (by omega)]; congr 2; omega
    · rcases hd with ⟨q, hq⟩ | hd
      · exact go_more (β := β) (t := 0) (s := s) (far := ε - β) hp h8.2 hq (by omega) fun l hl => by rw [hF l (by omega)]; congr 2; omega
      · exfalso
        rw [hF 139 (by omega)] at hd
        obtain ⟨n, h1, -, h3⟩ := steps_of (ε + 1 * 139 - (β + 0 * 139)) hp
        rw [h1] at hd
        obtain ⟨k1, k2, k3, -, -⟩ := h3 (by omega)
        have hn : 2 ≤ n := by
          by_cases z : 2 ≤ n
          · exact z
          · have : s * n ≤ s * 1 := Int.mul_le_mul_of_nonneg_left (by omega) (by omega)
            omega
        rw [plain_two _ _ (by omega)] at hd
        have : n ≤ 1 := hd
        omega
    · exact ⟨0, 0, goes_none fun l hl => by
        rw [hF l (by omega), plain_zero]
        obtain ⟨n, h1, h2, -⟩ := steps_of (ε + 0 * l - (β + 1 * l)) hp
        rw [h1]
        exact h2 (by omega)⟩
    · exact go_same (β := β) (t := 1) (s := s) (k := (ε - β + s - 1).fdiv s) fun l hl => by rw [hF l (by omega)]; congr 2; omega
  · have hE : ∀ n : Int, endsM (b, e, st) n = (edgeM b n (n - 1) (-1) (n - 1), edgeM e n (-1) (-1) (n - 1), s) := fun n => by
      cases st with
      | none =>
        have : s = 1 := hs.symm
        omega
      | some x =>
        have : x = s := hs
        subst this
        simp only [endsM, if_neg hp]
    have hw : 0 < 0 - s := by omega
    obtain ⟨β, t, ht, b1, b2, hβ⟩ := edge16_down hb (fun n => n - 1) (.inr fun _ => rfl)
    obtain ⟨ε, u, hu, e1, e2, hε⟩ := edge16_down he (fun _ => -1) (.inl fun _ => rfl)
    have hF : ∀ n : Int, 40 ≤ n → spanM (b, e, st) n = plainM (β + t * n) s ((β + t * n - (ε + u * n) + (0 - s) - 1).fdiv (0 - s)) := fun n hn => by
      unfold spanM
      rw [hE n, hβ n hn, hε n hn]
      show (if 0 < s then _ else _) = _
      rw [if_neg hp]
      congr 2
      show β + t * n - (ε + u * n) - s - 1 = _
      omega
    rcases ht with rfl | rfl <;> rcases hu with rfl | rfl
    · exact go_same (β := β) (t := 0) (s := s) (k := (β - ε + (0 - s) - 1).fdiv (0 - s)) fun l hl => by rw [hF l (by omega)]; congr 2; omega
    · exact ⟨0, 0, goes_none fun l hl => by
        rw [hF l (by omega), plain_zero]
        obtain ⟨n, h1, h2, -⟩ := steps_of (β + 0 * l - (ε + 1 * l)) hw
        rw [h1]
        exact h2 (by omega)⟩
    · rcases hd with ⟨q, hq⟩ | hd
      · exact go_more (β := β) (t := 1) (s := s) (w := 0 - s) (far := β - ε) (q := 0 - q) hw (by omega) (by rw [hq, Int.zero_sub, Int.zero_sub, Int.neg_mul_neg]) (by omega) fun l hl => by rw [hF l (by omega)]; congr 2; omega
      · exfalso
        rw [hF 139 (by omega)] at hd
        obtain ⟨n, h1, -, h3⟩ := steps_of (β + 1 * 139 - (ε + 0 * 139)) hw
        rw [h1] at hd
        obtain ⟨k1, k2, k3, -, -⟩ := h3 (by omega)
        have hn : 2 ≤ n := by
          by_cases z : 2 ≤ n
          · exact z
          · have : (0 - s) * n ≤ (0 - s) * 1 := Int.mul_le_mul_of_nonneg_left (by omega) (by omega)
            omega
        rw [plain_two _ _ (by omega)] at hd
        have : n ≤ 1 := hd
        omega
    · exact go_same (β := β) (t := 1) (s := s) (k := (β - ε + (0 - s) - 1).fdiv (0 - s)) fun l hl => by rw [hF l (by omega)]; congr 2; omega
theorem go_alike {F G : Int → Spn} {D M D' M' : Int} (f : Go F D M) (g : Go G D' M') (h : ∀ l : Int, 94 ≤ l → l < 110 → F l = G l) : ∀ (k : Nat) (l : Int), 94 ≤ l → l < 102 + (k : Int) → F l = G l
  | 0, l, h1, h2 => h l h1 (by omega)
  | k + 1, l, h1, h2 => by
    by_cases z : l < 102
    · exact h l h1 (by omega)
    · have e0 := h 94 (by omega) (by omega)
      have e1 := h (94 + 8) (by omega) (by omega)
      rw [f 94 (by omega), g 94 (by omega), e0] at e1
      have hD : D = D' := by have := congrArg (fun x => x.1) e1; dsimp only at this; omega
      have hM : M = M' := by have := congrArg (fun x => x.2.2) e1; dsimp only at this; omega
      have ih := go_alike f g h k (l - 8) (by omega) (by omega)
      have e2 := f (l - 8) (by omega)
      have e3 := g (l - 8) (by omega)
      rw [show l - 8 + 8 = l by omega] at e2 e3
      rw [e2, e3, ih, hD, hM]
structure WideC (c : Cut) (s : Int) : Prop where
  b : smallB c.1 16 = true
  e : smallB c.2.1 16 = true
  st : c.2.2.getD 1 = s
  s0 : s ≠ 0
  s8 : -8 ≤ s ∧ s ≤ 8
theorem WideC.ok {c : Cut} {s : Int} (h : WideC c s) : CutOk c := by
  refine ⟨fun i e => by have := smallB_b h.b e; omega, fun i e => by have := smallB_b h.e e; omega, fun i e => ?_, fun e => ?_⟩
  · have h1 := h.st
    rw [e] at h1
    have h1 : i = s := h1
    have := h.s8
    omega
  · have h1 := h.st
    rw [e] at h1
    exact h.s0 h1.symm
/-- a wide cut and a small chain that are alike below 110 are alike -/
theorem wide_alike {cs : List Cut} {c : Cut} {s : Int} (hc : SmallOk cs) (w : WideC c s) (hd : (∃ q, 8 = s * q) ∨ (spanM c 139).2.2 ≤ 1) (h : ∀ k : Nat, k < 110 → throughM [c] k = throughM cs k) (l : Int) (hl : 0 ≤ l) : throughM [c] l = throughM cs l := by
  obtain ⟨b, e, st⟩ := c
  obtain ⟨D, M, f⟩ := wide_go w.b w.e w.st w.s0 w.s8 hd
  obtain ⟨_, _, D', _, M', _, g, _, _⟩ := small_reg hc
  have ok := w.ok
  by_cases z : l < 110
  · have := h l.toNat (by omega)
    rwa [show ((l.toNat : Nat) : Int) = l by omega] at this
  · rw [through_one hl ok]
    refine go_alike f g.go (fun k h1 h2 => ?_) l.toNat l (by omega) (by omega)
    have := h k.toNat (by omega)
    rw [show ((k.toNat : Nat) : Int) = k by omega, through_one (by omega) ok] at this
    exact this
/-! steps of small chains -/
theorem span_step (c : Cut) (l : Int) : (spanM c l).2.1 = 1 ∨ (spanM c l).2.1 = (endsM c l).2.2 := by
  have pl : ∀ f s n : Int, (plainM f s n).2.1 = 1 ∨ (plainM f s n).2.1 = s := fun f s n => by
    unfold plainM
    split
    · exact .inl rfl
    · show (if 1 < n then s else 1) = 1 ∨ (if 1 < n then s else 1) = s
      split
      · exact .inr rfl
      · exact .inl rfl
  unfold spanM
  split <;> exact pl _ _ _
theorem ends_step (c : Cut) (l : Int) : (endsM c l).2.2 = c.2.2.getD 1 := by
  obtain ⟨b, e, st⟩ := c
  cases st with
  | none => rfl
  | some x =>
    simp only [endsM]
    split <;> rfl
theorem span_many {c : Cut} {l : Int} (h : 1 < (spanM c l).2.2) : (spanM c l).2.1 = c.2.2.getD 1 := by
  have pl : ∀ f s n : Int, 1 < (plainM f s n).2.2 → (plainM f s n).2.1 = s := fun f s n => by
    unfold plainM
    split
    · intro z; exact absurd z (by show ¬ (1 : Int) < 0; decide)
    · intro z
      have z : 1 < n := z
      show (if 1 < n then s else 1) = s
      rw [if_pos z]
  rw [← ends_step c l]
  unfold spanM at h ⊢
  split <;> rename_i hp
  · rw [if_pos hp] at h
    exact pl _ _ _ h
  · rw [if_neg hp] at h
    exact pl _ _ _ h
theorem dvd_step {s : Spn} {c : Cut} {k : Int} (hs : ∃ q, k = s.2.1 * q) (hc : smallC c = true) (hz : c.2.2 ≠ some 0) : ∃ q, k * 2 = (stepM s c).2.1 * q := by
  obtain ⟨q, hq⟩ := hs
  have ht : ∃ r, 2 = (spanM c s.2.2).2.1 * r := by
    have h3 : smallB c.2.2 2 = true := by unfold smallC at hc; rw [Bool.and_eq_true, Bool.and_eq_true] at hc; exact hc.2.2
    rcases span_step c s.2.2 with e | e
    · exact ⟨2, by rw [e]; rfl⟩
    · rw [e, ends_step]
      cases e2 : c.2.2 with
      | none => exact ⟨2, rfl⟩
      | some x =>
        have h4 := smallB_b h3 e2
        have h5 : x ≠ 0 := fun z => hz (by rw [e2, z])
        show ∃ r, 2 = x * r
        obtain rfl | rfl | rfl | rfl : x = -2 ∨ x = -1 ∨ x = 1 ∨ x = 2 := by omega
        · exact ⟨-1, rfl⟩
        · exact ⟨-2, rfl⟩
        · exact ⟨2, rfl⟩
        · exact ⟨1, rfl⟩
  obtain ⟨r, hr⟩ := ht
  unfold stepM comp plainM
  split
  · exact ⟨k * 2, by show k * 2 = 1 * (k * 2); omega⟩
  · show ∃ q, k * 2 = (if 1 < (spanM c s.2.2).2.2 then s.2.1 * (spanM c s.2.2).2.1 else 1) * q
    split
    · refine ⟨q * r, ?_⟩
      rw [hq]
      generalize (spanM c s.2.2).2.1 = t at hr ⊢
      rw [hr, Int.mul_assoc, Int.mul_assoc, Int.mul_left_comm q t r]
    · exact ⟨k * 2, by omega⟩
theorem small_dvd {cs : List Cut} (h : SmallOk cs) (l : Int) : ∃ q, 8 = (throughM cs l).2.1 * q := by
  have h0 : ∃ q, 1 = (plainM 0 1 l).2.1 * q := ⟨1, by
    unfold plainM
    split
    · rfl
    · show (1 : Int) = (if 1 < l then 1 else 1) * 1
      split <;> rfl⟩
  unfold throughM
  have up : ∀ {x k : Int}, (∃ q, k = x * q) → ∃ q, k * 2 = x * q := fun {x k} ⟨q, e⟩ => ⟨q * 2, by rw [e, Int.mul_assoc]⟩
  match cs, h with
  | [], _ => exact up (k := 4) (up (k := 2) (up (k := 1) h0))
  | [a], h =>
    obtain ⟨ha, za⟩ := h.all a List.mem_cons_self
    exact up (k := 4) (up (k := 2) (dvd_step (k := 1) h0 ha za))
  | [a, b], h =>
    obtain ⟨ha, za⟩ := h.all a List.mem_cons_self
    obtain ⟨hb, zb⟩ := h.all b (by simp)
    exact up (k := 4) (dvd_step (k := 2) (dvd_step (k := 1) h0 ha za) hb zb)
  | [a, b, c], h =>
    obtain ⟨ha, za⟩ := h.all a List.mem_cons_self
    obtain ⟨hb, zb⟩ := h.all b (by simp)
    obtain ⟨hc, zc⟩ := h.all c (by simp)
    exact dvd_step (k := 4) (dvd_step (k := 2) (dvd_step (k := 1) h0 ha za) hb zb) hc zc
  | _ :: _ :: _ :: _ :: _, h => exact absurd h.len (by simp)
theorem dvd8 {s : Int} (h : ∃ q, 8 = s * q) : s ≠ 0 ∧ -8 ≤ s ∧ s ≤ 8 := by
  obtain ⟨q, hq⟩ := h
  have hs : s ≠ 0 := fun z => by rw [z, Int.zero_mul] at hq; omega
  have h1 : s ∣ 8 := ⟨q, hq⟩
  have h2 : -s ∣ 8 := ⟨-q, by rw [Int.neg_mul_neg]; exact hq⟩
  exact ⟨hs, by have := Int.le_of_dvd (by decide) h2; omega, Int.le_of_dvd (by decide) h1⟩
theorem nodup_le : ∀ {ms L : List Int}, ms.Nodup → (∀ x ∈ ms, x ∈ L) → ms.length ≤ L.length
  | [], _, _, _ => Nat.zero_le _
  | x :: ms, L, hn, hm => by
    obtain ⟨n1, n2⟩ := List.nodup_cons.mp hn
    have hx := hm x List.mem_cons_self
    have := nodup_le (ms := ms) (L := L.erase x) n2 fun y hy => (List.mem_erase_of_ne (fun e => n1 (by rw [← e]; exact hy))).mpr (hm y (List.mem_cons_of_mem _ hy))
    rw [List.length_erase_of_mem hx] at this
    have hpos : 0 < L.length := List.length_pos_of_mem hx
    simp only [List.length_cons]
    omega
theorem few {ms : List Int} (hn : ms.Nodup) (h : ∀ x ∈ ms, -8 ≤ x ∧ x ≤ 8) : ms.length < 64 := by
  have := nodup_le (L := [-8, -7, -6, -5, -4, -3, -2, -1, 0, 1, 2, 3, 4, 5, 6, 7, 8]) hn fun x hx => by
    have := h x hx
    obtain rfl | rfl | rfl | rfl | rfl | rfl | rfl | rfl | rfl | rfl | rfl | rfl | rfl | rfl | rfl | rfl | rfl : x = -8 ∨ x = -7 ∨ x = -6 ∨ x = -5 ∨ x = -4 ∨ x = -3 ∨ x = -2 ∨ x = -1 ∨ x = 0 ∨ x = 1 ∨ x = 2 ∨ x = 3 ∨ x = 4 ∨ x = 5 ∨ x = 6 ∨ x = 7 ∨ x = 8 := by omega
    all_goals simp
  simp only [List.length_cons, List.length_nil] at this
  omega
end Gd

namespace Gd
open PySem PySem.Spec PyProof.Rows L2
/-! ### texts joined -/
section
variable {ok : Addr → Prop} {H : Hp}
theorem Reps.strs_inv : ∀ {ns : List Str} {vs : List V}, Reps ok H (ns.map D.str) vs → vs = ns.map V.str
  | [], _, .nil => rfl
  | n :: ns, _, .cons r t => by
    rw [r.str_inv, Reps.strs_inv t]
    rfl
theorem Reps.strs : ∀ (ns : List Str), Reps ok H (ns.map D.str) (ns.map V.str)
  | [] => .nil
  | n :: ns => .cons (.str n) (Reps.strs ns)
end
abbrev rJoin (K : PySem.W.Frag) : V → List V → Hp → VK → Prop := fun x xs H Q => ∃ a p, ∃ ys : List Str, x = .str a ∧ xs = [.ref p] ∧ (SqL K H p (ys.map V.str) ∨ SqT K H p (ys.map V.str)) ∧ (ys.map (·.length)).sum + ys.length * a.length ≤ 16777216 ∧ Q (.str (Txt.join a ys)) H
theorem kJoin {X : Cx} (K : PySem.W.Frag) {o e : Expr} {to te : TE} {apos pos : Pos} (ho : PE X o to) (he : PE X e te) (h : X.K = K := by rfl) (hs : starEach [e] X.env = [(false, eval e X.env)] := by rfl) (hbase : attributeBase o "join" X.env (eval o X.env) = eval o X.env := by rfl) (hline : (apos.endLine == pos.line) = true := by rfl) :
    PE X (.Call (.Attribute o "join" apos) [e] [] pos) (tM1 (rJoin K) to te) := by subst h; exact pe_join ho he hs hbase hline
theorem ge_join {xc : Xc} {d : Dl} {m : M} {Q : D → M → Prop} {to te : TE} {K : PySem.W.Frag} (h : ge xc to d m fun x m1 => ∃ a, x = .str a ∧ ge xc te d m1 fun y m2 => ∃ ys : List Str, y = .lst (ys.map D.str) ∧ (ys.map (·.length)).sum + ys.length * a.length ≤ 16777216 ∧ Q (.str (Txt.join a ys)) m2) : ge xc (tM1 (rJoin K) to te) d m Q := fun sg H s e Q' k => by
  refine h sg H s e _ fun v H1 x m1 s1 r1 t1 ⟨a, hx, h1⟩ => ?_
  subst hx
  rw [r1.str_inv]
  refine ⟨⟨a, rfl⟩, h1 sg H1 t1 (e.step s1) _ fun u H2 y m2 s2 r2 t2 ⟨ys, hy, hb, q⟩ => ?_⟩
  subst hy
  obtain ⟨p, xs, rfl, _, ep, rp⟩ := r2.lst_inv
  have ex := Reps.strs_inv rp
  subst ex
  exact ⟨a, p, ys, rfl, rfl, .inl (.inl (.inl ep)), hb, k _ H2 (.str _) m2 (s1.trans s2) (.str _) t2 q⟩
/-! texts as lists of signs -/
theorem strOk_iff (x : Str) : PyData.strOk x = true ↔ ∀ c ∈ TL.tl x, c < 1114112 := by
  unfold PyData.strOk TL.tl
  rw [Array.all_eq_true_iff_forall_mem]
  constructor
  · intro h c hc
    exact of_decide_eq_true (h c (Array.mem_toList_iff.mp hc))
  · intro h c hc
    exact decide_eq_true (h c (Array.mem_toList_iff.mpr hc))
theorem joinL_mem {S : List Nat} {c : Nat} : ∀ {ps : List (List Nat)}, c ∈ TL.joinL S ps → c ∈ S ∨ ∃ p ∈ ps, c ∈ p
  | [], h => by cases h
  | [p], h => .inr ⟨p, List.mem_singleton.mpr rfl, h⟩
  | p :: q :: r, h => by
    rcases List.mem_append.mp (show c ∈ p ++ (S ++ TL.joinL S (q :: r)) from h) with h | h
    · exact .inr ⟨p, List.mem_cons_self, h⟩
    · rcases List.mem_append.mp h with h | h
      · exact .inl h
      · rcases joinL_mem h with h | ⟨z, hz, h⟩
        · exact .inl h
        · exact .inr ⟨z, List.mem_cons_of_mem _ hz, h⟩
theorem strOk_join {a : Str} {ys : List Str} (ha : PyData.strOk a = true) (hy : ∀ y ∈ ys, PyData.strOk y = true) : PyData.strOk (Txt.join a ys) = true := by
  rw [strOk_iff] at ha ⊢
  rw [TL.join_eq, TL.tl_join]
  intro c hc
  rcases joinL_mem hc with h | ⟨p, hp, h⟩
  · exact ha c h
  · obtain ⟨y, hy2, rfl⟩ := List.mem_map.mp hp
    exact (strOk_iff y).mp (hy y hy2) c h
theorem edgeT_ok (o : Option Int) : PyData.strOk (edgeT o) = true := by
  cases o with
  | none => exact strOk_of _
  | some i => exact strOk_of _
theorem writtenM_ok (c : Cut) : PyData.strOk (writtenM c) = true := by
  unfold writtenM
  split
  · exact strOk_app (strOk_app (edgeT_ok _) (strOk_of _)) (edgeT_ok _)
  · exact strOk_app (strOk_app (strOk_app (strOk_app (edgeT_ok _) (strOk_of _)) (edgeT_ok _)) (strOk_of _)) (edgeT_ok _)
abbrev braT (c : Cut) : Str := Str.ofString "[" ++ writtenM c ++ Str.ofString "]"
def chainT (cs : List Cut) : Str := Txt.join (Str.ofString "") (cs.map braT)
theorem braT_ok (c : Cut) : PyData.strOk (braT c) = true := strOk_app (strOk_app (strOk_of _) (writtenM_ok c)) (strOk_of _)
theorem chainT_ok (cs : List Cut) : PyData.strOk (chainT cs) = true := strOk_join (strOk_of _) fun y hy => by
  obtain ⟨c, _, rfl⟩ := List.mem_map.mp hy
  exact braT_ok c
theorem bra_len : (Str.ofString "[").length = 1 ∧ (Str.ofString "]").length = 1 := by decide +kernel
theorem braT_len {c : Cut} (h : CutOk c) : (braT c).length ≤ 40 := by
  have := writtenM_len h
  have := bra_len
  unfold braT
  rw [len_app, len_app]
  omega
theorem sum_le {k : Nat} : ∀ {xs : List Nat}, (∀ x ∈ xs, x ≤ k) → xs.sum ≤ k * xs.length
  | [], _ => by simp
  | x :: xs, h => by
    have h1 := h x List.mem_cons_self
    have h2 := sum_le (xs := xs) fun y hy => h y (List.mem_cons_of_mem _ hy)
    rw [List.sum_cons, List.length_cons, Nat.mul_add, Nat.mul_one]
    omega
end Gd

namespace Gd
open PySem PySem.Spec PyProof.Rows L2
/-! ### == of a built-in thing and an own object: the own one is asked -/
theorem ins_plain {P : Program} {w : World} {H : Hp} {h : Heap} {a C dx : Addr} {fs : List (Str × V)} {o : Obj} (hok : HOk P w H h) (ea : H a = some (.ins C dx fs)) (e : h.get? a = some o) : o.data = .plain := by
  obtain ⟨_, _, _, e2, _⟩ := hok a _ ea
  rw [e] at e2
  cases e2
  rfl
section
variable {prog : Program} {w : World} {A : Around} {E : Value → Shared → Prop} {s : Shared} {K : PySem.W.Frag} {x C f : Addr} {ox : Obj} {od : Option Obj}
open PySem.W in
theorem rc_own_right {a : Value} {T id : String} {Q : Value → Shared → Prop} (ta : s.TypeIs a T) (X : K.In s.heap) (I : InstAt s.heap x ox C od) (hsub : subIn K (.ref C) (.type T) = some false) (slot : Slot T "__eq__" id)
    (decl : ∀ Q' : Value → Shared → Prop, Q' .notImplemented s → wpAny (model prog w) A (call (.builtin id) [a, .ref x]) Q' E s) (hs : findIn K (.ref C) "__eq__" = some (some (.ref f))) (hf : isFn K (.ref f) = true) (hu : A.units < cLine)
    (h : wpAny (model prog w) A (call (.ref f) [.ref x, a]) (PySem.W.CmpBack Q) E s) : wpAny (model prog w) A (richCompare .Eq a (.ref x)) Q E s := by
  unfold richCompare
  simp only [ta.oneThing_none]
  refine wpAny_holding (wpAny_bind (wpAny_cRoomFor hu ?_))
  refine wpAny_bind (wpAny_typeOf ta (wpAny_bind (I.type.here ?_)))
  have hne : (Value.type T != Value.ref C) = true := rfl
  simp only [hne, if_true]
  refine wpAny_bind ((looks_subIn X hsub).here ?_)
  simp only [Bool.false_eq_true, if_false, Bool.not_false, if_true]
  refine wpAny_bind (m := tryCompare a _ (.ref x)) (wpAny_tryCompare_declines ta slot (decl _ ⟨rfl, ?_⟩))
  refine wpAny_bind (m := tryCompare (.ref x) _ a) ?_
  unfold tryCompare
  refine wpAny_bind (ifBound_K X I hs hf (wpAny_mono h (fun v s' hv => ?_) fun _ _ e => e))
  cases v <;> first | exact hv.elim | exact wpAny_pure (wpAny_pure hv)
theorem int_declines_own (b : Int) (u : Tok) (x : Addr) (o : Obj) (hd : o.data = .plain) : Meets (Builtin.«int.__eq__» ⟨[.int b u, .ref x], []⟩) (fun _ R s => s.heap.get? x = some o ∧ R (.ok (.ret .notImplemented)) s) := by
  obtain ⟨oc, odd, odt, osl⟩ := o
  simp only at hd
  subst hd
  exact .of_wp fun prog w A R s h => by
    obtain ⟨hp, g, d, tk, os⟩ := s
    obtain ⟨hl, h⟩ := h
    wp_walk using AutoSeq1.wpAny_loadPart' hl, wpAny_load hl
    exact ⟨_, rfl, h⟩
open PySem.W in
theorem list_declines_own {l : Addr} {items : Array Value} {Q : Value → Shared → Prop} (hl : s.heap.IsList l items) (X : K.In s.heap) (I : InstAt s.heap x ox C od) (hsub : subIn K (.ref C) (.type "list") = some false) (q : Q .notImplemented s) :
    wpAny (model prog w) A (call (.builtin "list.__eq__") [.ref l, .ref x]) Q E s := by
  obtain ⟨⟨oc, odd, odt, osl⟩, ho, hc, n, hd⟩ := id hl
  simp only at hc hd
  subst hc hd
  refine GQ.call_here F.slot_list_eq ⟨_, ho, rfl⟩ F.entry_list_eq (F.args_list_eq_2 _ _) ?_
  have hx := I.at_
  have hc := I.cls
  obtain ⟨hp, g, d, tk, os⟩ := s
  wp_walk using AutoSeq1.wpAny_loadPart' ho
  rw [hc]
  refine (looks_subIn X hsub).here ?_
  exact wpAny_pure q
theorem eqB_int {n : Int} {t : Tok} {a : Addr} {Q : Shared → Prop} (h : wpAny (model prog w) A (richCompare .Eq (.int n t) (.ref a)) (fun v s' => v = .bool false ∧ Q s') E s) : wpAny (model prog w) A (eqBool (.int n t) (.ref a)) (fun b s' => b = false ∧ Q s') E s := by
  unfold eqBool
  refine wpAny_holding ?_
  refine wpAny_ite_split (fun hab => absurd (eq_of_beq hab) nofun) (fun _ => ?_)
  refine wpAny_bind (wpAny_mono h (fun v s2 hv => ?_) fun _ _ e => e)
  obtain ⟨rfl, hv⟩ := hv
  exact wpAny_truthy_bool ⟨rfl, hv⟩
theorem eqB_ref {b a : Addr} {Q : Shared → Prop} (ne : b ≠ a) (h : wpAny (model prog w) A (richCompare .Eq (.ref b) (.ref a)) (fun v s' => v = .bool false ∧ Q s') E s) : wpAny (model prog w) A (eqBool (.ref b) (.ref a)) (fun b s' => b = false ∧ Q s') E s :=
  GQ.eqBool_refG ne (wpAny_mono h (fun v s2 hv => ⟨false, hv.1, rfl, hv.2⟩) fun _ _ e => e)
/-- x in [..]: no item is equal to x; the list is read anew at each turn -/
theorem contains_no {l : Addr} {N : Nat} {y : Value} {R : Result → Shared → Prop} (I : Shared → Prop)
    (rd : ∀ (i : Nat) s, I s → ∃ (items : Array Value) (n : Nat) (dd : Option Addr) (sl : Array (Option Value)), s.heap.get? l = some { cls := .type "list", dict := dd, data := .seq items n, slots := sl } ∧ items.size = N ∧ ∀ h : i < items.size, wpAny (model prog w) A.in1 (eqBool items[i] y) (fun b s' => b = false ∧ I s') (fun e s' => R (.error e) s') s)
    (fin : ∀ s, I s → R (.ok (.ret (.bool false))) s) : ∀ (k i : Nat), N - i = k → ∀ s, I s → wpAny (model prog w) A.in1 (Builtin.«list.__contains__.loop» ⟨[.ref l, y, rawInt i], []⟩) (GQ.FinOf prog w A R) (fun e s' => R (.error e) s') s
  | 0, i, hk, s, hs => by
    obtain ⟨items, n, dd, sl, hls, hN, -⟩ := rd i s hs
    have q := fin s hs
    obtain ⟨hp, g, d, tk, os⟩ := s
    wp_walk using AutoSeq1.wpAny_loadPart' hls
    rw [show items[((i : Nat) : Int).toNat]? = none by simp; omega]
    wp_walk
    exact q
  | k + 1, i, hk, s, hs => by
    obtain ⟨items, n, dd, sl, hls, hN, tn⟩ := rd i s hs
    have lt : i < items.size := by omega
    have tn := tn lt
    obtain ⟨hp, g, d, tk, os⟩ := s
    wp_walk using AutoSeq1.wpAny_loadPart' hls
    rw [show items[((i : Nat) : Int).toNat]? = some items[i] by simp [lt]]
    refine wpAny_bind (wpAny_mono tn (fun b s' hb => ?_) fun _ _ e => e)
    obtain ⟨rfl, hs'⟩ := hb
    have ih := contains_no I rd fin k (i + 1) (by omega) s' hs'
    obtain ⟨hp', g', d', tk', os'⟩ := s'
    wp_walk
    rw [show ((i : Int) + 1) = ((i + 1 : Nat) : Int) by push_cast; rfl]
    refine ⟨plainId_quiet MeetsSeq.plain_contains_loop _, codeAny_builtin MeetsSeq.entry_contains_loop ?_⟩
    rw [Around.under_plainId MeetsSeq.plain_contains_loop _]
    exact ih
theorem in_no {l : Addr} {N : Nat} {y : Value} {Q : Value → Shared → Prop} (I : Shared → Prop)
    (rd : ∀ (i : Nat) s, I s → ∃ (items : Array Value) (n : Nat) (dd : Option Addr) (sl : Array (Option Value)), s.heap.get? l = some { cls := .type "list", dict := dd, data := .seq items n, slots := sl } ∧ items.size = N ∧ ∀ h : i < items.size, wpAny (model prog w) A.in1 (eqBool items[i] y) (fun b s' => b = false ∧ I s') E s)
    (fin : ∀ s, I s → Q (.bool false) s) (hs : I s) : wpAny (model prog w) A (compareOp .In y (.ref l)) Q E s := by
  obtain ⟨items, n, dd, sl, hls, hN, -⟩ := rd 0 s hs
  show wpAny _ A (do return .bool (← contains (.ref l) y)) Q E s
  refine wpAny_bind (wpAny_contains_slot ⟨_, hls, rfl⟩ F.slot_list_contains (wpAny_mono (GQ.call_here (Q := fun v s' => v = .bool false ∧ I s') F.slot_list_contains ⟨_, hls, rfl⟩ F.entry_list_contains (F.args_list_contains_2 _ _) ?_) (fun v s' hv => ?_) fun _ _ e => e))
  · have ih := contains_no (prog := prog) (w := w) (A := A) (R := wants (fun v s' => v = .bool false ∧ I s') E) I rd (fun s h => ⟨rfl, h⟩) N 0 (by omega) s hs
    obtain ⟨hp, g, d, tk, os⟩ := s
    wp_walk using AutoSeq1.wpAny_loadPart' hls
    refine ⟨plainId_quiet MeetsSeq.plain_contains_loop _, codeAny_builtin MeetsSeq.entry_contains_loop ?_⟩
    rw [Around.under_plainId MeetsSeq.plain_contains_loop _]
    exact ih
  · obtain ⟨rfl, h⟩ := hv
    exact wpAny_truthy_bool (wpAny_pure (fin s' h))
end
/-- what the written part says of an own class that is compared with lists and ints -/
structure OwnL (K : PySem.W.Frag) (C : Addr) : Prop where
  lc : PySem.W.subIn K (.type "list") (.ref C) = some false
  cl : PySem.W.subIn K (.ref C) (.type "list") = some false
  ci : PySem.W.subIn K (.ref C) (.type "int") = some false
  ki : PySem.W.kitOne K (.type "int") (.ref C) = some false
  kl : PySem.W.kitOne K (.type "list") (.ref C) = some false
section
variable {X : Cx} {k : Nat} {C f : Addr} {fd : FuncData} {ps : List Str} {sp : Sp}
/-- o == xs -/
def rEqOL (K : PySem.W.Frag) (C : Addr) (sp : Sp) : R2 := fun x y H Q => ∃ a l dx fs zs, x = .ref a ∧ y = .ref l ∧ H a = some (.ins C dx fs) ∧ SqL K H l zs ∧ sp [.ref a, .ref l] H (fun v H' => ∃ r, v = .bl r ∧ Q (.bl r) H') E0
theorem op_eqOL (M : EqM X.K C f) (L : OwnL X.K C) (F : FnOk X.prog X.w X.K X.mg X.base CX0 k f fd ps sp) (hr : Room (k + 1) X.A) (hb : Binds X.K fd ps []) : OpR X (compareOp .Eq) (rEqOL X.K C sp) := by
  intro pins s σ H x y v u Q I rx ry h
  obtain ⟨a, l, dx, fs, zs, rfl, rfl, ea, el, hsp⟩ := h
  cases rx
  cases ry
  obtain ⟨mA, J, _⟩ := ins_get I.hok ea
  obtain ⟨od, J, _⟩ := J.look
  obtain ⟨m, hF⟩ := I.fr
  obtain ⟨its, rv, pl, hz⟩ := I.list el
  obtain ⟨ol, hol, hcl, nl, hdl⟩ := pl.isList
  show wpAny (model X.prog X.w) X.A (richCompare .Eq (.ref a) (.ref l)) _ _ s
  refine PySem.W.cmp_K (op := .Eq) (tb := .type "list") hr.units0 hF I.ok.mod.kin J (hcl ▸ (PySem.W.Looks.ld hol).andThen .now) (by unfold PySem.W.notFirst; rw [L.lc]; rfl) M.at_ M.fn ?_
  have r2 : Vals [V.ref a, V.ref l] [Value.ref a, Value.ref l] := .cons rfl (.cons rfl .nil)
  refine wpAny_mono (run_sub F ⟨hr.mono (Nat.le_succ _), rfl⟩ hb pass0 I r2 hsp) (fun w s' hq => ?_) fun _ _ x => x
  obtain ⟨v, H', I', rv, r, e, q⟩ := hq
  subst e
  cases rv
  exact ⟨.bl r, H', I', rfl, q⟩
theorem kEqOL (K : PySem.W.Frag) (M : EqM K C f) (L : OwnL K C) (F : FnOk X.prog X.w K X.mg X.base CX0 k f fd ps sp) (hr : Room (k + 1) X.A) (hb : Binds K fd ps []) (h : X.K = K := by rfl) : OpR X (compareOp .Eq) (rEqOL K C sp) := by subst h; exact op_eqOL M L F hr hb
/-- o in [..], no item equal: ints, lists, other objects of the class -/
def ItemO (K : PySem.W.Frag) (C : Addr) (sp : Sp) (a : Addr) (J : Hp → Prop) (H : Hp) (z : V) : Prop :=
  (((∃ i, z = .int i) ∨ ∃ b ys, z = .ref b ∧ SqL K H b ys) ∧ sp [.ref a, z] H (fun v H' => v = .bl false ∧ J H') E0) ∨ (∃ b dx fs, z = .ref b ∧ b ≠ a ∧ H b = some (.ins C dx fs)) ∧ sp [z, .ref a] H (fun v H' => v = .bl false ∧ J H') E0
def rInO (K : PySem.W.Frag) (C : Addr) (sp : Sp) : R2 := fun x y H Q => ∃ (a l : Addr) (zs : List V) (J : Hp → Prop), x = .ref a ∧ y = .ref l ∧ J H ∧ (∀ H', J H' → SqL K H' l zs ∧ (∃ dx fs, H' a = some (.ins C dx fs)) ∧ ∀ z ∈ zs, ItemO K C sp a J H' z) ∧ ∀ H', J H' → Q (.bl false) H'
theorem op_inO (M : EqM X.K C f) (L : OwnL X.K C) (Fn : FnOk X.prog X.w X.K X.mg X.base CX0 k f fd ps sp) (hr : Room (k + 2) X.A) (hb : Binds X.K fd ps []) : OpR X (compareOp .In) (rInO X.K C sp) := by
  intro pins s σ H x y v u Q I rx ry h
  obtain ⟨a, l, zs, J, rfl, rfl, j0, step, fin⟩ := h
  cases rx
  cases ry
  refine in_no (N := zs.length) (fun s' => ∃ H', Inv X pins σ H' s' ∧ J H') (fun i s' ⟨H', I', j'⟩ => ?_) (fun s' ⟨H', I', j'⟩ => ⟨.bl false, H', I', rfl, fin H' j'⟩) ⟨H, I, j0⟩
  obtain ⟨hl, ⟨dx, fs, ea⟩, hit⟩ := step H' j'
  obtain ⟨its, rv, pl, hz⟩ := I'.list hl
  obtain ⟨⟨oc, od0, odt, osl⟩, hol, hcl, nl, hdl⟩ := pl.isList
  simp only at hcl hdl
  subst hcl hdl
  refine ⟨its.toArray, nl, od0, osl, hol, by rw [List.size_toArray, ← rv.length], fun hi => ?_⟩
  have hi' : i < its.length := by simpa using hi
  have hi2 : i < zs.length := by rw [rv.length]; exact hi'
  obtain ⟨u, hu, ru⟩ := rv.get (List.getElem?_eq_getElem hi2)
  have eu : its.toArray[i] = u := by
    have : its[i]? = some its[i] := List.getElem?_eq_getElem hi'
    rw [this] at hu
    cases hu
    simp
  rw [eu]
  obtain ⟨mA, K1, _⟩ := ins_get I'.hok ea
  obtain ⟨od, K1, _⟩ := K1.look
  obtain ⟨mF, hF⟩ := I'.fr
  have units : X.A.in1.units < cLine := (L2.Sub.in1 (X := X) (n := k + 1) ⟨hr, rfl⟩).room.units0
  have back : ∀ {z : V}, RelV z u → sp [.ref a, z] H' (fun v H' => v = .bl false ∧ J H') E0 → wpAny (model X.prog X.w) X.A.in1 (call (.ref f) [.ref a, u]) (PySem.W.CmpBack fun v s2 => v = .bool false ∧ ∃ H2, Inv X pins σ H2 s2 ∧ J H2) X.xe s' := fun rz hsp => by
    refine wpAny_mono (run_sub Fn ((L2.Sub.in1 (X := X) (n := k + 1) ⟨hr, rfl⟩).mono (Nat.le_succ _)) hb pass0 I' (.cons (show RelV (.ref a) (.ref a) from rfl) (.cons rz .nil)) hsp) (fun w s2 hq => ?_) fun _ _ x => x
    obtain ⟨v, H2, I2, rv, e, q⟩ := hq
    subst e
    cases rv
    exact ⟨rfl, H2, I2, q⟩
  rcases hit _ (List.getElem_mem hi2) with ⟨hz1, hsp⟩ | ⟨⟨b, dxb, fsb, ez, hne, eb⟩, hsp⟩
  · rcases hz1 with ⟨n, en⟩ | ⟨b, ys, en, hbl⟩
    · rw [en] at ru hsp
      obtain ⟨t, rfl⟩ := id ru
      refine eqB_int ?_
      refine rc_own_right (typeIs_int _ _ _) I'.kIn K1 L.ci F.slot_int_eq (fun Q' hq => ?_) M.at_ M.fn units (back ru hsp)
      have hat := K1.at_
      exact call_meets F.slot_int_eq (typeIs_int _ _ _) F.entry_int_eq (F.args_int_eq_2 _ _) (int_declines_own n t a _ (ins_plain I'.hok ea hat)) ⟨hat, hq⟩
    · rw [en] at ru hsp
      cases ru
      obtain ⟨itb, rvb, plb, hzb⟩ := I'.list hbl
      have hlist := plb.isList
      have hba : b ≠ a := fun z => by
        subst z
        obtain ⟨ol, h1, h2, _⟩ := hlist
        rw [K1.at_] at h1
        cases h1
        rw [K1.cls] at h2
        cases h2
      refine eqB_ref hba ?_
      exact rc_own_right hlist.typeIs I'.kIn K1 L.cl F.slot_list_eq (fun Q' hq => list_declines_own hlist I'.kIn K1 L.cl hq) M.at_ M.fn units (back (show RelV (.ref b) (.ref b) from rfl) hsp)
  · rw [ez] at ru hsp
    cases ru
    refine eqB_ref hne ?_
    obtain ⟨mB, K2, _⟩ := ins_get I'.hok eb
    obtain ⟨od2, K2, _⟩ := K2.look
    refine PySem.W.cmp_K (op := .Eq) (tb := .ref C) units hF I'.ok.mod.kin K2 K1.type (by simp [PySem.W.notFirst]) M.at_ M.fn ?_
    refine wpAny_mono (run_sub Fn ((L2.Sub.in1 (X := X) (n := k + 1) ⟨hr, rfl⟩).mono (Nat.le_succ _)) hb pass0 I' (.cons (show RelV (.ref b) (.ref b) from rfl) (.cons (show RelV (.ref a) (.ref a) from rfl) .nil)) hsp) (fun w s2 hq => ?_) fun _ _ x => x
    obtain ⟨v, H2, I2, rv, e, q⟩ := hq
    subst e
    cases rv
    exact ⟨rfl, H2, I2, q⟩
theorem kInO (K : PySem.W.Frag) (M : EqM K C f) (L : OwnL K C) (F : FnOk X.prog X.w K X.mg X.base CX0 k f fd ps sp) (hr : Room (k + 2) X.A) (hb : Binds K fd ps []) (h : X.K = K := by rfl) : OpR X (compareOp .In) (rInO K C sp) := by subst h; exact op_inO M L F hr hb
end
end Gd

namespace Gd
open PySem PySem.Spec PyProof.Rows L2
section
variable {m : M} {Q : D → M → Prop} {C : Addr} {T : TD} {K : PySem.W.Frag} {ns : List Str} {ds : List D}
theorem g2_eqOL {es : List D} (h : T [.obj C ns ds, .lst es] m (fun v m' => ∃ r, v = .bl r ∧ Q (.bl r) m') (fun _ _ _ => False)) : g2 (rEqOL K C (spOf T)) (.obj C ns ds) (.lst es) m Q := fun H vx vy s r1 r2 Q' k => by
  obtain ⟨a, dx, xs, rfl, oa, ea, l, ra⟩ := id r1.obj_inv
  obtain ⟨b, ys, rfl, ob, eb, rb⟩ := id r2.lst_inv
  refine ⟨a, b, dx, _, ys, rfl, rfl, ea, .inl (.inl eb), [.obj C ns ds, .lst es], m, _, fun _ _ _ => False, .cons r1 (.cons r2 .nil), s, h, fun v H' z m' s2 r3 t2 ⟨r, e, q⟩ => ?_, fun _ _ _ _ _ _ _ _ z => z.elim⟩
  subst e
  exact ⟨r, r3.bl_inv, k _ H' (.bl _) m' s2 (.bl _) t2 q⟩
def ItemD (C : Addr) (T : TD) (ns : List Str) (ds : List D) (m : M) (z : D) : Prop :=
  (((∃ i, z = .int i) ∨ ∃ es, z = .lst es) ∧ T [.obj C ns ds, z] m (fun v m' => v = .bl false ∧ m' = m) (fun _ _ _ => False)) ∨
  ∃ ns' ds', z = .obj C ns' ds' ∧ (∀ ok H a, Rep ok H (.obj C ns ds) (.ref a) → Rep ok H (.obj C ns' ds') (.ref a) → False) ∧ T [z, .obj C ns ds] m (fun v m' => v = .bl false ∧ m' = m) (fun _ _ _ => False)
theorem g2_inO {zs : List D} (h : ∀ z ∈ zs, ItemD C T ns ds m z) (q : Q (.bl false) m) : g2 (rInO K C (spOf T)) (.obj C ns ds) (.lst zs) m Q := fun H vx vy s r1 r2 Q' k => by
  obtain ⟨a, dx, xs, rfl, oa, ea, l, ra⟩ := id r1.obj_inv
  obtain ⟨p, us, rfl, op, ep, rp⟩ := id r2.lst_inv
  refine ⟨a, p, us, fun H' => Step m H m H' ∧ MSat m H', rfl, rfl, ⟨.refl, s⟩, fun H' ⟨st, ms⟩ => ?_, fun H' ⟨st, ms⟩ => k _ H' (.bl false) m st (.bl _) ms q⟩
  refine ⟨.inl (.inl (st.keep p _ ep op)), ⟨dx, _, st.keep a _ ea oa⟩, fun v hv => ?_⟩
  obtain ⟨i, hi, e⟩ := List.getElem_of_mem hv
  obtain ⟨z, hz, rz⟩ := (rp.step st).get' (i := i) (v := v) (by rw [List.getElem?_eq_getElem hi, e])
  have r1' := r1.step st
  have fin : ∀ {x y : D} {vx vy : V}, Rep (off m) H' x vx → Rep (off m) H' y vy → T [x, y] m (fun v m' => v = .bl false ∧ m' = m) (fun _ _ _ => False) → spOf T [vx, vy] H' (fun v H2 => v = .bl false ∧ Step m H m H2 ∧ MSat m H2) E0 := fun {x y vx vy} rx ry hT =>
    ⟨[x, y], m, _, fun _ _ _ => False, .cons rx (.cons ry .nil), ms, hT, fun v H2 z2 m2 s2 rr t2 ⟨e1, e2⟩ => by
      subst e1
      subst e2
      exact ⟨rr.bl_inv, st.trans s2, t2⟩, fun _ _ _ _ _ _ _ _ z => z.elim⟩
  rcases h z (List.mem_of_getElem? hz) with ⟨hk, hT⟩ | ⟨ns', ds', rfl, hne, hT⟩
  · refine .inl ⟨?_, fin r1' rz hT⟩
    rcases hk with ⟨n, rfl⟩ | ⟨es, rfl⟩
    · exact .inl ⟨n, rz.int_inv⟩
    · obtain ⟨b, ys, e, _, eb, _⟩ := rz.lst_inv
      exact .inr ⟨b, ys, e, .inl (.inl eb)⟩
  · obtain ⟨b, dxb, xsb, e, _, eb, _, _⟩ := id rz.obj_inv
    refine .inr ⟨⟨b, dxb, _, e, fun z => ?_, eb⟩, fin rz r1' hT⟩
    subst e
    subst z
    exact hne _ _ _ r1' rz
/-- two runs with unlike many numbers are not the same object -/
theorem run_apart {C : Addr} {b e s b' e' s' : Int} {ns ns' : List Int} (h : ns.length ≠ ns'.length) : ∀ ok H a, Rep ok H (runX C b e s ns) (.ref a) → Rep ok H (runX C b' e' s' ns') (.ref a) → False := fun ok H a r1 r2 => by
  obtain ⟨a1, dx1, xs1, e1, _, h1, _, q1⟩ := r1.obj_inv
  obtain ⟨a2, dx2, xs2, e2, _, h2, _, q2⟩ := r2.obj_inv
  cases e1
  cases e2
  rw [h1] at h2
  cases q1 with | cons _ q1 =>
  cases q1 with | cons l1 q1 =>
  cases q1
  cases q2 with | cons _ q2 =>
  cases q2 with | cons l2 q2 =>
  cases q2
  simp only [List.zip_cons_cons, List.zip_nil_right, Option.some.injEq, HO.ins.injEq, List.cons.injEq, Prod.mk.injEq, true_and, and_true] at h2
  obtain ⟨_, _, hv⟩ := h2
  subst hv
  obtain ⟨p1, ys1, g1, _, k1, w1⟩ := l1.lst_inv
  obtain ⟨p2, ys2, g2, _, k2, w2⟩ := l2.lst_inv
  cases g1
  cases g2
  rw [k1] at k2
  cases k2
  have z1 := w1.length
  have z2 := w2.length
  rw [List.length_map] at z1 z2
  omega
end
theorem kit_tyref {K : PySem.W.Frag} {D : Addr} {n : String} {b : Bool} (hd : PySem.W.hasDictIn K D = true) (ht : PySem.W.typeIn K (.ref D) = some (.type "type")) (hs : PySem.W.subIn K (.type n) (.ref D) = some b) : PySem.W.kitOne K (.type n) (.ref D) = some b := by
  unfold PySem.W.kitOne
  rw [if_neg (by simp)]
  obtain ⟨cd, hc, _⟩ := PySem.W.any_some hd
  have e2 : ((PySem.W.clsIn K D).isSome && PySem.W.typeIn K (.ref D) == some (.type "type")) = true := by rw [hc, ht] <;> rfl
  show (if ((PySem.W.clsIn K D).isSome && PySem.W.typeIn K (.ref D) == some (.type "type")) = true then PySem.W.subIn K (.type n) (.ref D) else none) = some b
  rw [if_pos e2]
  exact hs
theorem gc_isiTy {m : M} {Q : D → M → Prop} {K : PySem.W.Frag} {C : Addr} {x : D} {t : String} {b : Bool} (h : tyD x = some t) (e : PySem.W.kitOne K (.type t) (.ref C) = some b) (q : Q (.bl b) m) : gc (rIsi K) [x, .ref C] m Q := fun H vs s r Q' k => by
  cases r with | cons r1 r2 =>
  cases r2 with | cons r2 r3 =>
  cases r3
  rw [r2.ref_inv]
  exact ⟨_, _, .type t, .ref C, b, rfl, .own C, r1.ty_of h, e, k _ H _ m .refl (.bl _) s q⟩
/-! where a number stands first -/
def fstIx (i : Int) : List Int → Nat
  | [] => 0
  | x :: xs => if x = i then 0 else fstIx i xs + 1
theorem fstIx_spec {i : Int} : ∀ {ns : List Int}, i ∈ ns → ns[fstIx i ns]? = some i ∧ ∀ k : Nat, k < fstIx i ns → ns[k]? ≠ some i
  | x :: xs, h => by
    unfold fstIx
    by_cases e : x = i
    · rw [if_pos e]
      exact ⟨by rw [e]; rfl, fun k hk => absurd hk (Nat.not_lt_zero _)⟩
    · rw [if_neg e]
      have h2 : i ∈ xs := (List.mem_cons.mp h).resolve_left fun z => e z.symm
      obtain ⟨h3, h4⟩ := fstIx_spec h2
      refine ⟨by rw [List.getElem?_cons_succ]; exact h3, fun k hk => ?_⟩
      cases k with
      | zero =>
        rw [List.getElem?_cons_zero]
        exact fun z => e (Option.some.inj z)
      | succ k =>
        rw [List.getElem?_cons_succ]
        exact h4 k (by omega)
/-- numbers, written -/
def numsT (ns : List Int) : Str := Txt.join (Str.ofString " ") (ns.map fun i => Str.ofString (toString i))
theorem numsT_ok (ns : List Int) : PyData.strOk (numsT ns) = true := strOk_join (strOk_of _) fun y hy => by
  obtain ⟨i, _, rfl⟩ := List.mem_map.mp hy
  exact strOk_of _
/-! ### str(o) by an own __str__ -/
structure StrM (K : PySem.W.Frag) (C f : Addr) : Prop where
  at_ : PySem.W.findIn K (.ref C) "__str__" = some (some (.ref f))
  fn : PySem.W.isFn K (.ref f) = true
theorem call_strO {X : Cx} {k : Nat} {C f : Addr} {fd : FuncData} {ps : List Str} {sp : Sp} (L : StrM X.K C f) (Fn : FnOk X.prog X.w X.K X.mg X.base CX0 k f fd ps sp) (hr : Room (k + 2) X.A) (hb : Binds X.K fd ps []) : CallR X (.type "str") (rReprO C sp) := by
  intro pins s σ H xs us Q I r h
  obtain ⟨a, dx, fs, rfl, ea, hsp⟩ := h
  obtain ⟨u, rfl, rx⟩ := vals1 r
  cases rx
  obtain ⟨mA, J, _⟩ := ins_get I.hok ea
  obtain ⟨od, J, _⟩ := J.look
  have S2 : L2.Sub X k X.A.in1.in1 := L2.Sub.in1 (L2.Sub.in1 ⟨hr, rfl⟩)
  refine PySem.W.kso_call S2.room.units0 I.kIn J L.at_ L.fn ?_
  have r2 : Vals [V.ref a] [Value.ref a] := .cons rfl .nil
  refine wpAny_mono (run_sub Fn S2 hb pass0 I r2 hsp) (fun w s' hq => ?_) fun _ _ x => x
  obtain ⟨v, H', I', rv, z, e, q⟩ := hq
  subst e
  obtain ⟨t, rfl⟩ := rv
  exact ⟨.str z, H', I', ⟨t, rfl⟩, q⟩
theorem kStrO {X : Cx} (K : PySem.W.Frag) {k : Nat} {C f : Addr} {fd : FuncData} {ps : List Str} {sp : Sp} (L : StrM K C f) (Fn : FnOk X.prog X.w K X.mg X.base CX0 k f fd ps sp) (hr : Room (k + 2) X.A) (hb : Binds K fd ps []) (h : X.K = K := by rfl) : CallR X (.type "str") (rReprO C sp) := by subst h; exact call_strO L Fn hr hb
/-! ### C(.., k = v) -/
theorem ge_makeN {xc : Xc} {d : Dl} {m : M} {Q : D → M → Prop} {aa ab : TA} {C : Addr} {T : TD} {n k : Nat} (h : ga xc aa d m fun xs m1 => ga xc ab d m1 fun zs m2 => xs.length = n ∧ zs.length = k ∧ ∀ x, x ∉ dom m2 → T (.ref x :: (xs ++ zs)) ((x, .ins C []) :: m2) (fun v m3 => v = .non ∧ Q (.ref x) m3) xc.X0) : ge xc (tMakeN C n k (spOf T) (fun vs zs => vs ++ zs) xc.Ex aa ab) d m Q := fun sg H s e Q' kk =>
  h sg H s e _ fun vs H1 xs m1 s1 r1 t1 h1 => h1 sg H1 t1 (e.step s1) _ fun zs H2 ys m2 s2 r2 t2 ⟨l1, l2, q⟩ => by
    refine ⟨by rw [← r1.length]; exact l1, by rw [← r2.length]; exact l2, fun x dx nx ndx hne => ?_⟩
    have f1 : Step m2 H2 m2 (upd H2 dx (.own x)) := .fresh ndx
    have nx1 : (upd H2 dx (.own x)) x = none := by rw [upd_ne (Ne.symm hne)]; exact nx
    have t3 := t2.fresh (o := .own x) ndx
    have f2 : Step m2 (upd H2 dx (.own x)) ((x, .ins C []) :: m2) (upd (upd H2 dx (.own x)) x (.ins C dx [])) := .cell nx1
    have f12 := f1.trans f2
    have t4 : MSat ((x, .ins C []) :: m2) (upd (upd H2 dx (.own x)) x (.ins C dx [])) := by
      refine ⟨List.nodup_cons.mpr ⟨t2.off_new nx, t2.nd⟩, fun p hp => ?_⟩
      rcases List.mem_cons.mp hp with e | h
      · subst e
        exact ⟨dx, [], upd_same, .nil⟩
      · obtain ⟨u, eu⟩ := (t3.all p h).there
        exact (t3.all p h).mono f2.tups f2.h2 (upd_ne (ne_of_none eu nx1))
    refine ⟨.ref x :: (xs ++ ys), _, _, xc.X0, .cons (.ref x) (((r1.step s2).step f12).append (r2.step f12)), t4, q x (t2.off_new nx), fun v H' z m' s3 r3 t5 ⟨hz, q2⟩ => ⟨?_, ?_⟩, ((e.xk.step s1).step s2).step f12⟩
    · subst hz
      exact r3.non_inv
    · exact kk (.ref x) H' (.ref x) m' (((s1.trans s2).trans f12).trans s3) (.ref x) t5 q2
end Gd

namespace Gd
open PySem PySem.Spec PyProof.Rows L2
/-! ### xs[lo:hi] = ys, parts of any kind, step one -/
section
variable {prog : Program} {w : World} {A : Around} {E : Value → Shared → Prop} {s : Shared}
theorem setItem_cut {l b sl : Addr} {items new : Array Value} {n n2 : Nat} {vl vu : Value} {lo hi : Option Int} {a c : Nat} {Q : Unit → Shared → Prop}
    (e : s.heap.get? l = some { cls := .type "list", data := .seq items n }) (e2 : s.heap.get? b = some { cls := .type "list", data := .seq new n2 }) (hne : l ≠ b)
    (hs : s.heap.IsSliceOf sl vl vu .none) (pl : IsPart vl lo) (pu : IsPart vu hi) (hbd : sliceBounds lo hi none items.size = ((a : Int), (c : Int), 1)) (hac : a ≤ c)
    (hsz : items.size + new.size ≤ sizeLine) (h : Q () { s with heap := s.heap.update l (Obj.mapSeq fun xs => xs.extract 0 a ++ new ++ xs.extract c xs.size) }) :
    wpAny (model prog w) A (setItem (.ref l) (.ref sl) (.ref b)) Q E s := by
  have hl : s.heap.IsList l items := PySem.IsL.isList e
  have hb : s.heap.IsList b new := PySem.IsL.isList e2
  obtain ⟨os, hos, hcs, hds⟩ := id hs
  have hT : s.TypeIs (.ref sl) "slice" := ⟨os, hos, hcs⟩
  have hsame : Builtin.List.listSameRef (.ref l) (.ref b) = false := beq_eq_false_iff_ne.mpr hne
  have hmax : (max (a : Int) (c : Int)).toNat = c := by omega
  have hz' : ((fun xs : Array Value => xs.extract 0 a ++ new ++ xs.extract c xs.size) items).size ≤ sizeLine + 1 := by
    simp only [Array.size_append, Array.size_extract]
    omega
  unfold setItem
  refine wpAny_holding ?_
  refine wpAny_bind (wpAny_sequenceKey hl.typeIs (by decide) ?_)
  refine wpAny_bind (wpAny_callSpecial?_slot (name := Str.ofString "__setitem__") hl.typeIs slot_list_setitem (wpAny_call_entry slot_list_setitem hl.typeIs entry_list_setitem ?_ (args_list_setitem _ _ _)))
  show wpAny _ _ (Builtin.List.listSubscript? (.ref sl) >>= _) _ _ s
  refine wpAny_bind ?_
  unfold Builtin.List.listSubscript?
  refine wpAny_bind (wpAny_specialOf hT slice_no_index ?_)
  simp only [Option.isNone_none, if_true]
  refine wpAny_pure ?_
  show wpAny _ _ (typeOf (.ref sl) >>= _) _ _ s
  refine wpAny_bind (wpAny_typeOf hT ?_)
  refine PySem.W.KFB.if_not (by decide) ?_
  rw [listSliceParts_eq]
  refine wpAny_bind (wpAny_bind (wpAny_field hos hds (x := .none) rfl (wpAny_bind (wpAny_listPart .none ?_))))
  rw [if_neg (show ¬ ((rawPart none == rawInt 0) = true) from Bool.false_ne_true)]
  refine wpAny_bind (wpAny_field hos hds (x := vl) rfl (wpAny_bind (wpAny_listPart pl ?_)))
  refine wpAny_bind (wpAny_field hos hds (x := vu) rfl (wpAny_bind (wpAny_listPart pu (wpAny_pure ?_))))
  refine PySem.W.KFB.if_not hsame ?_
  refine wpAny_bind (m := Builtin.List.listAllItems (.ref b) "must assign iterable to extended slice") ?_
  unfold Builtin.List.listAllItems
  refine wpAny_bind (wpAny_typeOf hb.typeIs ?_)
  refine PySem.W.KFB.if_so (by decide) ?_
  unfold Builtin.List.listItems
  refine wpAny_bind (wpAny_seqItems e2 rfl (wpAny_pure ?_))
  refine wpAny_bind (wpAny_bind (wpAny_seqItems e rfl (wpAny_pure ?_)))
  refine wpAny_bind (wpAny_of_eq ((sliceIndices_raw lo hi none items.size (by simp)).trans (congrArg (pure : Int × Int × Int → Sem (Int × Int × Int)) hbd)) ?_)
  show wpAny _ _ (if ((1 : Int) == 1) = true then _ else _) _ _ s
  rw [if_pos (by decide)]
  refine wpAny_bind (wpAny_rule ?_)
  refine PySem.W.KFB.if_not (notLongL hsz) ?_
  show wpAny _ _ (updateSeq l (fun xs => xs.extract 0 ((a : Int)).toNat ++ new ++ xs.extract (max (a : Int) (c : Int)).toNat xs.size) >>= _) _ _ s
  rw [hmax, Int.toNat_natCast]
  refine wpAny_bind (wpAny_updateSeq (hz := Nat.le_trans (Nat.le_add_right _ _) hsz) (_hz' := hz') e rfl ?_)
  refine wpAny_bind (wpAny_letGo ?_)
  first
    | exact wpAny_bind (wpAny_pure (wpAny_pure ⟨.none, rfl, wpAny_pure h⟩))
    | exact wpAny_pure ⟨.none, rfl, wpAny_pure h⟩
theorem bounds_head (n : Nat) : sliceBounds none (some 1) none n = (((0 : Nat) : Int), ((min 1 n : Nat) : Int), 1) := by
  simp only [sliceBounds, Option.getD_none, show (1 : Int) > 0 by decide, if_true, show ¬ ((1 : Int) < 0) by decide, if_false]
  congr 2
  omega
end
/-- xs[:1] = ys -/
def gHead (to : TE) : TG := fun v σ H Q => to σ H fun o H1 => ∃ p b xs ys, o = .ref p ∧ v = .ref b ∧ p ≠ b ∧ H1 p = some (.lst xs) ∧ H1 b = some (.lst ys) ∧ xs.length + ys.length ≤ sizeLine ∧ Q σ (upd H1 p (.lst (ys ++ xs.drop 1)))
theorem pg_head {X : Cx} {o one : Expr} {to : TE} {p1 p2 pos : Pos} (ho : PE X o to) (h1 : PO X (some one) (tPart (tC (.int 1)))) : PG X (.Subscript o (.Slice none (some one) none p2) pos) (gHead to) := by
  refine ⟨fun pins s σ H v u Q I r h => ?_⟩
  show wpAny _ _ (do
    let ov ← holding [u] (eval o X.env)
    let iv ← holding [u, ov] (eval (.Slice none (some one) none p2) X.env)
    standAt pos
    holding [u, ov, iv] (setItem ov iv u)
    release [iv, u, ov] []) _ _ s
  refine wpAny_bind (wpAny_holding (thn (ho.run pins s σ H _ I h) fun ov s1 ⟨x, H1, I1, r1, p, b, xs, ys, ex, ev, hne, hp, hb, hz, q⟩ => ?_))
  subst ex
  subst ev
  obtain rfl : ov = Value.ref p := r1
  obtain rfl : u = Value.ref b := r
  refine wpAny_bind (wpAny_holding (wpAny_Slice ?_))
  rw [evalPart_none]
  refine wpAny_pure ?_
  refine thn (h1.run pins s1 σ H1 (fun k H2 => k = some 1 ∧ H2 = H1) I1 ⟨1, rfl, rfl, rfl⟩) fun vu s3 ⟨k, H3, I3, pu, e1, e2⟩ => ?_
  subst e1
  subst e2
  refine wpAny_pure ?_
  have I4 : Inv X pins σ H3 { s3 with heap := s3.heap.push { cls := .type "slice", data := .fields #[.none, vu, .none] } } := I3.kept (t' := s3.toks) fun b ob q => Heap.get?_push_of_some _ q
  obtain ⟨z, its, n, rr, hl, e⟩ := I4.lstM hp
  obtain ⟨z2, its2, n2, rr2, hl2, e2⟩ := I4.lstM hb
  refine wpAny_bind (wpAny_standAt (wpAny_bind (wpAny_holding ?_)))
  refine setItem_cut (a := 0) (c := min 1 its.length) e e2 hne (Heap.IsSliceOf.new ..) .none pu (by rw [List.size_toArray]; exact bounds_head _) (Nat.zero_le _) (by rw [List.size_toArray, List.size_toArray]; omega) ?_
  refine wpAny_release ⟨σ, _, I4.lset (its' := its2 ++ its.drop 1) (t' := s3.toks) hp e ?_ (rr2.append (rr.drop 1)) ?_, q⟩
  · rw [splice_eq]
    congr 1
    rw [List.take_zero, List.nil_append]
    congr 1
    cases its with
    | nil => rfl
    | cons y ys => simp [Nat.min_eq_left]
  · rw [List.length_append, List.length_drop]
    omega
end Gd

namespace Gd
open PySem PySem.Spec PyProof.Rows L2
section
variable {xc : Xc} {d : Dl} {m : M} {Q : D → M → Prop} {K : PySem.W.Frag} {ta te : TE}
theorem at_dom {m : M} {j : Nat} {a : Addr} {o : MO} (h : m[j]? = some (a, o)) : a ∈ dom m := List.mem_map.mpr ⟨_, List.mem_of_getElem? h, rfl⟩
/-- xs[:1] = ys of a cell -/
theorem gg_head {es : List D} {Q : Dl → M → Prop} (h : ge xc ta d m fun o m1 => ∃ a j ds, o = .ref a ∧ m1[j]? = some (a, MO.lst ds) ∧ ds.length + es.length ≤ 100000 ∧ Q d (m1.set j (a, .lst (es ++ ds.drop 1)))) : gg xc (gHead ta) (.lst es) d m Q := fun v sg H s e r Q' k =>
  h sg H s e _ fun vo H1 o m1 s1 r1 t1 ⟨a, j, ds, ho, hm, hl, q⟩ => by
    subst ho
    obtain ⟨us, ea, ra⟩ := t1.get hm
    obtain ⟨b, ys, rfl, ob, eb, rb⟩ := (r.step s1).lst_inv
    refine ⟨a, b, us, ys, r1.ref_inv, rfl, fun z => ?_, ea, eb, ?_, ?_⟩
    · subst z
      exact ob (at_dom hm)
    · rw [← ra.length, ← rb.length]
      exact Nat.le_trans hl (by decide)
    · exact k sg _ d _ (s1.trans (.write t1 hm)) (t1.writeL hm (rb.append (ra.drop 1))) ((e.step s1).step (.write t1 hm)) q
/-- xs.extend(ys) of a cell -/
theorem ge_ext (h : ge xc ta d m fun o m1 => ∃ (a : Addr) (j' : Nat) (ds' : List D), o = .ref a ∧ m1[j']? = some (a, MO.lst ds') ∧ ge xc te d m1 fun y m2 => ∃ (j : Nat) (ds es : List D), y = .lst es ∧ m2[j]? = some (a, MO.lst ds) ∧ ds.length + es.length ≤ 100000 ∧ Q .non (m2.set j (a, .lst (ds ++ es)))) : ge xc (tBM K "list" rExtend ta (tCons te tNil)) d m Q := fun sg H s e Q' k =>
  h sg H s e _ fun vo H1 o m1 s1 r1 t1 ⟨a, j', ds', ho, hm1, q⟩ => by
    subst ho
    obtain ⟨us1, ea1, ra1⟩ := t1.get hm1
    refine ⟨?_, q sg H1 t1 (e.step s1) _ fun vy H2 y m2 s2 r2 t2 ⟨j, ds, es, ey, hm, hl, q2⟩ => ?_⟩
    · rw [r1.ref_inv]
      exact .inl ⟨rfl, us1, .inl (.inl ea1)⟩
    · subst ey
      obtain ⟨us, ea, ra⟩ := t2.get hm
      obtain ⟨b, ys, rfl, ob, eb, rb⟩ := r2.lst_inv
      have s12 := s1.trans s2
      refine ⟨a, b, us, ys, (r1.step s2).ref_inv, rfl, ea, eb, ?_, ?_⟩
      · rw [← ra.length, ← rb.length]
        exact Nat.le_trans hl (by decide)
      · exact k _ _ .non _ (s12.trans (.write t2 hm)) .non (t2.writeL hm (ra.append rb)) q2
/-- list(cell), as data -/
theorem gc_listC {ds : List D} {a : Addr} (j : Nat) (hm : m[j]? = some (a, MO.lst ds)) (q : Q (.lst ds) m) : gc (rListOf K) [.ref a] m Q := fun H vs s r Q' k => by
  cases r with | cons r1 r2 =>
  cases r2
  obtain ⟨us, ea, ra⟩ := s.get hm
  rw [r1.ref_inv]
  exact ⟨a, us, rfl, .inl (.inl (.inl ea)), fun p np => k _ _ (.lst ds) m (.fresh np) (.lst (s.off_new np) upd_same (ra.step (.fresh np))) (s.fresh np) q⟩
/-- isinstance(cell, list) -/
theorem gc_isLstC {ds : List D} {a : Addr} (j : Nat) (hm : m[j]? = some (a, MO.lst ds)) (q : Q (.bl true) m) : gc (rIsi K) [.ref a, .ty "list"] m Q := fun H vs s r Q' k => by
  cases r with | cons r1 r2 =>
  cases r2 with | cons r2 r3 =>
  cases r3
  obtain ⟨us, ea, ra⟩ := s.get hm
  rw [r2.ty_inv, r1.ref_inv]
  exact ⟨_, _, .type "list", .type "list", true, rfl, .ty "list", .base (.lst ea), kit_ty (by decide +kernel), k _ H _ m .refl (.bl _) s q⟩
end
/-- a promise that no call can ask for -/
theorem fn_none {P : Program} {w : World} {K : PySem.W.Frag} {mg : Str → Option Value} {base : Heap} {k : Nat} {f : Addr} {fd : FuncData} {ps : List Str} {T : TD} (h : ∀ ds m Q X, T ds m Q X → False) : FnOk P w K mg base CX0 k f fd ps (spOf T) :=
  ⟨fun vs H Q E ⟨_, _, _, _, _, _, t, _⟩ => (h _ _ _ _ t).elim, fun A outer s H args us vs Q E hr he hb hv ⟨_, _, _, _, _, _, t, _⟩ => (h _ _ _ _ t).elim⟩
/-- in a cell, and forgotten -/
theorem ge_drop1 {xc : Xc} {te : TE} {d : Dl} {p : Addr × MO} {m : M} {Q : D → M → Prop} (h : ge xc te d m Q) : ge xc te d (p :: m) Q := fun sg H s e Q' k => by
  have st : Step (p :: m) H m H := ⟨⟨fun _ _ h => h, fun _ _ _ h => h⟩, fun _ _ h _ => h, fun _ h => .inl (List.mem_cons_of_mem _ h)⟩
  exact h sg H s.drop1 (e.step st) Q' fun v H' z m' s1 r1 t1 q => k v H' z m' (st.trans s1) r1 t1 q
/-! ### a new list, as data or as a cell -/
def WayL (Q : D → M → Prop) (ds : List D) (m : M) : Prop := Q (.lst ds) m ∨ ∀ p, p ∉ dom m → Q (.ref p) ((p, MO.lst ds) :: m)
abbrev Way (Q : D → M → Prop) (ns : List Int) (m : M) : Prop := WayL Q (ns.map D.int) m
section
variable {xc : Xc} {d : Dl} {m : M} {Q : D → M → Prop} {K : PySem.W.Frag} {g : TG} {tt : TT} {te : TE}
theorem ge_lcW {wi : TI} {vs : List Nat} (hg : GW g vs) (h : gi xc wi d m fun ds m1 => ∀ p, p ∉ dom m1 → glc xc g tt te (wipeD d vs) p (fun acc m' => WayL Q acc m') ds [] m1) : ge xc (tLc wi g tt te vs) d m Q :=
  lc_all (R := fun _ acc m' => WayL Q acc m') hg h fun H H' p acc m1 s st t q Q' k => by
    rcases q with q | q
    · exact k _ H' _ m1 (st.trans .drop1) (.freeze t) t.drop1 q
    · exact k _ H' _ _ st (.ref p) t (q p (List.nodup_cons.mp t.nd).1)
theorem gc_listW {ds : List D} (q : WayL Q ds m) : gc (rListM K) [.lst ds] m Q := by
  rcases q with q | q
  · exact gc_listL q
  · exact gc_listLM q
theorem gc_sortedW {ns : List Int} (q : ∀ ns' : List Int, ns'.Perm ns → ns'.Pairwise (· ≤ ·) → Way Q ns' m) : gc (rSortedI K) [.lst (ns.map D.int)] m Q := fun H vs s r Q' k => by
  cases r with | cons r1 r2 =>
  cases r2
  obtain ⟨a, us, rfl, oa, ea, ra⟩ := r1.lst_inv
  have e := Reps.ints_inv ra
  subst e
  refine ⟨a, ns, rfl, .inl (.inl ea), fun ns' p h1 h2 np => ?_⟩
  rcases q ns' h1 h2 with q | q
  · exact k _ _ (.lst (ns'.map D.int)) m (.fresh np) (.lst (s.off_new np) upd_same (Reps.ints ns')) (s.fresh np) q
  · exact k _ _ (.ref p) _ (.cell np) (.ref p) (s.cell np (Reps.ints ns')) (q p (s.off_new np))
end
end Gd

namespace Gd
open PySem PySem.Spec PyProof.Rows L2 PySem.W
/-! ### a comprehension out of which an exception comes -/
theorem note_same {e : Value} {a b : Env} (h : a.frame = b.frame) : noteFrame e a = noteFrame e b := by
  unfold noteFrame PySem.frameOf
  rw [h]
/-- what the block comes to: as the kit's compPost, the frame of what lets go told -/
def cpX (M : Model) (A : Around) (Ex : Value → Shared → Prop) (use : Option (Value → Sem Unit)) (Q : Value → Shared → Prop) (acc : Value) (C : Addr) (fr : Option Addr) (r : Result) (s' : Shared) : Prop :=
  match r with
  | .ok f => compPost M A Ex use Q acc C (.ok f) s'
  | .error x => ∃ m, s'.heap.Ns C m ∧ ∀ h2, Heap.SameBut C s'.heap h2 → ∀ ce : Env, ce.locals = C → ce.frame = fr → wpAny M A (PySem.passOn "comprehension.variables-let-go" x ce : Sem Value) (fun _ _ => False) Ex { s' with heap := h2 }
section
variable {M : Model} {A : Around} {Ex : Value → Shared → Prop} {env : Env} {s : Shared}
theorem comp_freeX {e : Expr} {scope : Scope} {pos : Pos} {nw first : Sem Value} {g : Comprehension} {gs : List Comprehension} {cl : List (Str × Addr)} {use : Option (Value → Sem Unit)} {Q : Value → Shared → Prop}
    (k1 : clausesOf e = g :: gs) (k2 : ∀ x, foldedSetIterable g.iter env x = pure x) (k3 : closureFor scope env = pure cl) (kk : scope.kind = .function) (k4 : ∀ x ∈ scope.names, x.2 = .local → scope.names.lookup x.1 = some .local)
    (h : wpAny M A first (fun x t1 => wpAny M A (pyIter x) (fun it t2 => wpAny M A nw (fun acc t3 => wpAny M A (newFunctionEnv scope env.globals cl [] env.qual none .none (some env)) (fun ce t4 => codeAny M A (.compStart e 0 it acc { ce with scope := relabel scope env }) (cpX M A Ex use Q acc ce.locals ce.frame) t4) Ex t3) Ex t2) Ex t1) Ex s) :
    wpAny M A (comprehension e scope env pos nw false first use) Q Ex s := by
  unfold comprehension
  rw [k3, k1]
  refine wpAny_bind (wpAny_mono h (fun x t1 w1 => ?_) fun _ _ z => z)
  refine wpAny_bind (wpAny_standAt (wpAny_bind (wpAny_of_eq (k2 x) ?_)))
  refine wpAny_bind (wpAny_holding (wpAny_mono w1 (fun it t2 w2 => ?_) fun _ _ z => z))
  refine wpAny_standIf (wpAny_bind (wpAny_mono w2 (fun acc t3 w3 => ?_) fun _ _ z => z))
  refine wpAny_bind (wpAny_pure (wpAny_bind (wpAny_mono w3 (fun ce t4 w4 => ?_) fun _ _ z => z)))
  dsimp only
  have v1 : ∀ x ∈ (scope.names.filter fun x => (x.2 == .local || x.2 == .cell) && x.1 != (".0" : Str)).reverse, x.2 = .local → Env.kindOf { ce with scope := relabel scope env } x.1 = some .local := fun x hx hl =>
    lookup_relabel_local (k4 x (List.mem_filter.mp (List.mem_reverse.mp hx)).1 hl)
  have v2 : ∀ x ∈ (scope.names.filter fun x => (x.2 == .local || x.2 == .cell) && x.1 != (".0" : Str)).reverse.drop 1 ++ (scope.names.filter fun x => (x.2 == .local || x.2 == .cell) && x.1 != (".0" : Str)).reverse.take 1, x.2 = .local → Env.kindOf { ce with scope := relabel scope env } x.1 = some .local := fun x hx hl =>
    (List.mem_append.mp hx).elim (fun z => v1 x (List.mem_of_mem_drop z) hl) fun z => v1 x (List.mem_of_mem_take z) hl
  refine wpAny_holding (wpAny_bind (wpAny_attempt (wpAny_holding (wpAny_run (codeAny_mono w4 fun r t5 hr => ?_)))))
  cases r with
  | ok f =>
    cases use with
    | none =>
      obtain ⟨m, n1, n2⟩ := hr
      refine wpAny_bind (wpAny_holding (wpAny_comp_letGo (cenv := { ce with scope := relabel scope env }) kk _ t5 m v1 n1 fun h2 m2 _ sb => ?_))
      exact wpAny_pure (n2 h2 sb)
    | some u =>
      refine wpAny_bind (wpAny_rule (wpAny_bind (wpAny_holding (wpAny_mono hr (fun _ t6 hr6 => ?_) fun _ _ z => z))))
      obtain ⟨m, n1, n2⟩ := hr6
      refine wpAny_bind (wpAny_comp_letGo (cenv := { ce with scope := relabel scope env }) kk _ t6 m v2 n1 fun h2 m2 _ sb => ?_)
      exact wpAny_pure (n2 h2 sb)
  | error x =>
    obtain ⟨m, n1, n2⟩ := hr
    refine wpAny_bind (wpAny_holding (wpAny_comp_letGo (cenv := { ce with scope := relabel scope env }) kk _ t5 m v1 n1 fun h2 m2 _ sb => ?_))
    exact wpAny_mono (n2 h2 sb { ce with scope := relabel scope env } rfl rfl) (fun _ _ f => f.elim) fun _ _ z => z
end
/-- noted at a frame, the flight being another one's -/
theorem note_other {M : Model} {A : Around} {Ex : Value → Shared → Prop} {s : Shared} {Z : Obj → Prop} {B : Heap} {env : Env} {outer : List Env} {L e : Addr} {fl : Value} {Q : Unit → Shared → Prop} (hZ : HandSPX.Steady Z) (hfr : A.frames = some (env :: outer)) (hf : env.frame = some L) (hne : (fl == rawInt L) = false)
    (k1 : B.StaysIn s.heap) (k2 : B.get? e = none) (k3 : s.heap.FunFrames B (env :: outer)) (k4 : HandSPX.TracedZ s.heap B e Z fl) (hQ : ∀ h2, HandSPX.HeldZ B (env :: outer) e Z L h2 → s.heap.UpToSlots h2 → Q () { s with heap := h2 }) : wpAny M A (noteFrame (.ref e) env) Q Ex s := by
  obtain ⟨oe, vs, T, oT, ts, t1, t2, t3, t4, t5, t6, t7, t8, t9⟩ := k4
  unfold noteFrame
  simp only [hf]
  refine wpAny_bind (wpAny_field t1 t3 t4 ?_)
  rw [if_pos (by simp)]
  refine wpAny_bind (wpAny_field t7 t8 t9 ?_)
  rw [if_neg (by rw [hne]; exact Bool.false_ne_true)]
  refine wpAny_bind (wpAny_setField t7 t8 (Array.getElem?_eq_some_iff.mp t9).1 ?_)
  have ot : ∀ b, b ≠ T → (s.heap.update T (Obj.mapFields (·.setIfInBounds 3 Value.none))).get? b = s.heap.get? b := fun b z => Heap.get?_update_other _ _ z.symm
  have nr : ∀ b o, s.heap.get? b = some o → (∀ vs, o.data ≠ .fields vs) → b ≠ T := fun b o q nf z => by
    rw [z, t7] at q
    cases q
    exact nf ts t8
  refine HandSPX.wpAny_entryZ hZ hfr (k3.of_keeps fun b o q nf => ⟨o, (ot b (nr b o q nf)).trans q, rfl⟩) hf ((ot e t6.symm).trans t1) (fun b o q => (ot b fun z => by rw [z, t5] at q; cases q).trans (k1 b o q)) k2 t3 (Array.getElem?_eq_some_iff.mp t4).1 t2 fun h2 hN => ?_
  exact hQ h2 ⟨hN.1, k2, hN.2.1, hN.2.2.1⟩ fun b o q nf => hN.2.2.2 b o ((ot b (nr b o q nf)).trans q) nf
theorem ff_less {B B2 h h2 : Heap} (hB : ∀ b, B.get? b = none → B2.get? b = none) (hh : ∀ b o, B.get? b = none → h.get? b = some o → h2.get? b = some o) : ∀ {l : List Env}, h.FunFrames B l → h2.FunFrames B2 l
  | [], _ => trivial
  | _ :: _, ⟨a, ⟨L, o, b, c, d, e⟩, f⟩ => ⟨a, ⟨L, o, b, hB L c, hh L o c d, e⟩, ff_less hB hh f⟩
section
variable {X : Cx} {pins : List (Addr × Obj)} {σ : L2.St} {H3 : Hp} {s3 : Shared} {ce : Env} {fp : List Addr} {scope : Scope} {E : XK}
abbrev WE' (E : XK) : WX := fun cls d _ H => E cls d H
/-- the block's context, what is wished of exceptions: that they are in its air -/
abbrev blkX (X : Cx) (E : XK) (s : Shared) (H : Hp) (scope : Scope) (ce : Env) (fp : List Addr) : Cx := (X.blk s H scope ce fp).wish fun e s' => XE (X.blk s H scope ce fp) (WE' E) e s'
theorem passB {P : Program} {w : World} (hP : X.prog = P) (hw : X.w = w) {s : Shared} {H : Hp} : Passes (L2.CX P w) (blkX X E s H scope ce fp) E := fun pins σ H' s1 e s' I c => by
  subst hP; subst hw
  exact XE.of_call (X := X.blk s H scope ce fp) I.unwish (fun _ _ _ h => h) c
/-- what leaves the block is in our air -/
theorem blk_out {use : Option (Value → Sem Unit)} {Qf : Value → Shared → Prop} {acc : Value} {u : Value} {s' : Shared} (tk : Takes X (WE' E)) (hs : X.stack = X.env :: X.outer) (hf : X.env.frame = some X.env.locals)
    (I3 : Inv X pins σ H3 s3) (f3 : ∀ b ∈ fp, (b ∈ X.ex ∨ X.s_0.heap.objs.size ≤ b) ∧ b ≠ X.env.locals ∧ (∀ x c, X.env.cells.lookup x = some c → c ≠ b) ∧ ∀ p ∈ X.pn ++ pins, p.1 ≠ b) (hL : ce.locals = s3.heap.objs.size) (hfr : ce.frame = X.env.frame)
    (x : XE (X.blk s3 H3 scope ce fp) (WE' E) u s') :
    notedBy (model X.prog X.w) X.A ce (fun e t => cpX (model X.prog X.w) X.A X.xe use Qf acc s3.heap.objs.size ce.frame (.error e) t) u s' := by
  obtain ⟨a, B, sI, pins', σ', H', cls, d, rfl, I', nb, up, sky, na, os, ag, w⟩ := x
  have hAf : X.A.frames = some (X.env :: X.outer) := by rw [I3.ok.frames, hs]
  have nb : ∀ b o, sI.heap.get? b = some o → b ∉ frs X.stack → B.get? b = some o := nb
  obtain ⟨mC, hC, -⟩ := I'.loc
  have hC : sI.heap.Ns ce.locals mC := hC
  rw [hL] at hC
  have nC : H' s3.heap.objs.size = none := by
    have z : H' ce.locals = none := I'.free
    rwa [hL] at z
  have fC : FpOk X pins H' s3.heap.objs.size := I3.fpOk (Nat.le_refl _) nC
  have cF : s3.heap.objs.size ∉ frs X.stack := fun hb => by
    rcases List.mem_cons.mp (I3.stkSub _ hb) with z | z
    · exact fC.2.1 z
    · exact fC.2.2.1 z
  obtain ⟨oC, esC, epC, hoC, rC⟩ := hC
  have hBC : B.get? s3.heap.objs.size = some oC := nb _ _ hoC cF
  have hcf : ce.frame = some X.env.locals := hfr.trans hf
  -- held at our frame
  suffices fin : ∀ h1, HandSPX.HeldZ B (X.env :: X.outer) a (Zc cls d) X.env.locals h1 → s'.heap.UpToSlots h1 → cpX (model X.prog X.w) X.A X.xe use Qf acc s3.heap.objs.size ce.frame (.error (.ref a)) { s' with heap := h1 } by
    show wpAny _ _ (noteFrame (.ref a) ce) _ _ s'
    rw [note_same (b := X.env) hfr]
    have sky : Sky B (X.env :: X.outer) a (Zc cls d) ce.locals s'.heap := by rw [← hs]; exact sky
    rcases sky with ⟨k1, k2, k3, oe, vs, k4, k5, k6, k7⟩ | fl | hd
    · exact HandSPX.look_newZ Zc.steady hAf k3 hf k4 k1 k2 k6 k7 k5 fin
    · exact HandSPX.looks_onZ Zc.steady hAf hf fl fin
    · obtain ⟨k1, k2, k3, k4⟩ := hd
      refine note_other Zc.steady hAf hf ?_ k1 k2 k3 k4 fin
      have z : ce.locals ≠ X.env.locals := by rw [hL]; exact fC.2.1
      cases qz : (rawInt ce.locals == rawInt X.env.locals) with
      | false => rfl
      | true =>
        have h1 := eq_of_beq qz
        unfold rawInt at h1
        injection h1 with h1
        have h2 : ce.locals = X.env.locals := Int.ofNat.inj h1
        exact absurd h2 z
  intro h1 hh up1
  obtain ⟨st1, na1, ff1, oe, vs, T, oT, ts, t1, t2, t3, t4, t5, t6, t7, t8, t9⟩ := hh
  refine ⟨mC, ⟨oC, esC, epC, st1 _ _ hBC, rC⟩, fun h2 sb ce2 hl2 hf2 => ?_⟩
  have aC : a ≠ s3.heap.objs.size := fun z => by rw [z, hBC] at na1; cases na1
  have TC : T ≠ s3.heap.objs.size := fun z => by rw [z, hBC] at t5; cases t5
  obtain ⟨B2, b1, b2⟩ := restrict B fun b => decide (b ≠ s3.heap.objs.size)
  obtain ⟨G, g1, g2⟩ := restrict sI.heap fun b => decide (b ≠ s3.heap.objs.size)
  have B2s : ∀ b o, B2.get? b = some o → b ≠ s3.heap.objs.size ∧ B.get? b = some o := fun b o e => by
    by_cases z : b = s3.heap.objs.size
    · rw [b2 b (by simp [z])] at e; cases e
    · rw [b1 b (by simp [z])] at e; exact ⟨z, e⟩
  have Gs : ∀ b o, G.get? b = some o → b ≠ s3.heap.objs.size ∧ sI.heap.get? b = some o := fun b o e => by
    by_cases z : b = s3.heap.objs.size
    · rw [g2 b (by simp [z])] at e; cases e
    · rw [g1 b (by simp [z])] at e; exact ⟨z, e⟩
  have B2n : ∀ b, B.get? b = none → B2.get? b = none := fun b e => by
    cases q : B2.get? b with
    | none => rfl
    | some o => rw [(B2s b o q).2] at e; cases e
  have held2 : HandSPX.HeldZ B2 (X.env :: X.outer) a (Zc cls d) X.env.locals h2 := by
    refine ⟨fun b o e => ?_, B2n a na1, ff_less B2n (fun b o hb e => ?_) ff1, oe, vs, T, oT, ts, ?_, t2, t3, t4, B2n T t5, t6, ?_, t8, t9⟩
    · obtain ⟨z1, z2⟩ := B2s b o e
      rw [sb.2 b z1]
      exact st1 b o z2
    · rw [sb.2 b fun z => by rw [z, hBC] at hb; cases hb]
      exact e
    · rw [sb.2 a aC]; exact t1
    · rw [sb.2 T TC]; exact t7
  have I7 : Inv X pins σ H' sI := I3.call' (ch := fp) I'.os I'.base I'.hok I'.bare f3
  have I8 : Inv X pins σ H' { sI with heap := G, toks := sI.toks } := I7.turned (it := s3.heap.objs.size) (t' := sI.toks) (fun b o hb e => (g1 b (by simp [hb])).trans e) fC.1 fC.2.1 fC.2.2.2.1 fC.2.2.2.2.1 fC.2.2.2.2.2
  unfold PySem.passOn
  refine wpAny_bind (wpAny_field (vs := vs) (by show h2.get? a = some oe; rw [sb.2 a aC]; exact t1) t3 t4 ?_)
  rw [if_neg (by simp)]
  rw [hf2, hcf]
  refine wpAny_bind (HandSPX.setFlight_onZ (s := { s' with heap := h2 }) held2 fun h3 hh3 up3 => ?_)
  refine wpAny_throw (tk _ _ ⟨a, B2, _, pins, σ, H', cls, d, rfl, I8, fun b o e hb => ?_, fun b o e nf => ?_, ?_, na, os, ag, w⟩)
  · obtain ⟨z1, z2⟩ := Gs b o e
    rw [b1 b (by simp [z1])]
    exact nb b o z2 hb
  · obtain ⟨z1, z2⟩ := Gs b o e
    obtain ⟨sl1, q1⟩ := up b o z2 nf
    obtain ⟨sl2, q2⟩ := up1 b _ q1 nf
    obtain ⟨sl3, q3⟩ := up3 b _ ((sb.2 b z1).trans q2) nf
    exact ⟨sl3, q3⟩
  · rw [hs]; exact .inr (.inr hh3)
theorem Inv.eqv {E1 : Value → Shared → Prop} {σ : L2.St} {H : Hp} {s : Shared} (I : Inv X pins σ H s) : Inv (X.wish E1) pins σ H s := I.wish E1
/-- the comprehension, its parts in a block that lets exceptions out -/
theorem lc_coreX {s : Shared} {σ : L2.St} {H : Hp} {Q : VK} {elt tg iter : Expr} {ifs : List Expr} {own : List (Str × Nat)} {pos pos' : Pos} {wi : TI} {g : TG} {tt : TT} {te : TE} {use : Option (Value → Sem Unit)} {Qf : Value → Shared → Prop}
    (tk : Takes X (WE' E)) (hs : X.stack = X.env :: X.outer) (hf : X.env.frame = some X.env.locals)
    (hc : X.calm = true) (hN : X.N.Nodup) (I : Inv X pins σ H s) (hi : PI X tg iter wi) (ok : BlkOk X.N X.env.scope scope own)
    (hg : ∀ (s : Shared) (H : Hp) (C : Addr) (cl : List (Str × Addr)) (fp : List Addr), PG (blkX X E s H scope (compEnvC scope cl C X.env) fp) tg g)
    (ht : ∀ (s : Shared) (H : Hp) (C : Addr) (cl : List (Str × Addr)) (fp : List Addr), PTs (blkX X E s H scope (compEnvC scope cl C X.env) fp) ifs tt)
    (he : ∀ (s : Shared) (H : Hp) (C : Addr) (cl : List (Str × Addr)) (fp : List Addr), PE (blkX X E s H scope (compEnvC scope cl C X.env) fp) elt te) (hsx : ∀ x, foldedSetIterable iter X.env x = pure x)
    (h : tLc wi g tt te (own.map (·.2)) σ H Q)
    (hRR : ∀ D C s' m H', Inv X pins σ H' s' → Q (.ref D) H' → s'.heap.Ns C m → FpOk X pins H' C → compPost (model X.prog X.w) X.A X.xe use Qf (.ref D) C (.ok .next) s') :
    wpAny (model X.prog X.w) X.A (comprehension (.ListComp elt [⟨tg, iter, ifs, 0⟩] scope pos) scope X.env pos' (newList []) false (eval iter X.env) use) Qf X.xe s := by
  refine comp_freeX (use := use) rfl hsx (closure_ok fun y hy e => (ok.free y hy e).elim (fun k => I.ok.has _ (.inl k)) fun k => I.ok.has _ (.inr k)) ok.kind (fun y hy e => by rw [ok.uniq y hy, e]) (thn (hi.run pins s σ H _ I h) fun xv s1 hx => thn hx fun itv s2 h2 => ?_)
  obtain ⟨it, fp, tn, J, H2, e, I2, T, st2, f2, q⟩ := h2
  subst e
  refine wpAny_newObj_type (newEnv_comp ?_) (by show 0 ≤ sizeLine; decide)
  generalize hD : s2.heap.objs.size = D
  have hDn : H2 D = none := I2.hok.fresh (Nat.le_of_eq hD)
  obtain ⟨W, ⟨m0, w0⟩, turn⟩ := q D hDn
  generalize hs3 : ({ s2 with heap := s2.heap.push { cls := .type "list", data := .seq ([] : List Value).toArray } } : Shared) = s3
  have h3 : s3.heap = s2.heap.push { cls := .type "list", data := .seq ([] : List Value).toArray } := by rw [← hs3]
  have I3 : Inv X pins σ (upd H2 D (.lst [])) s3 := by
    rw [← hs3]
    refine I2.laid (t' := s2.toks) (fun b o z => Heap.get?_push_of_some _ z) (Nat.le_of_eq hD) ⟨Nat.zero_le _, [], 0, .nil, ?_⟩
    rw [← hD]
    exact Heap.get?_push_size _ rfl
  have f3 : ∀ b ∈ fp, FpOk X pins (upd H2 D (.lst [])) b ∧ b < s3.heap.objs.size := fun b hb => by
    obtain ⟨o, z, _⟩ := T.obj _ _ st2 b hb
    have hlt := Heap.lt_size z
    refine ⟨⟨(upd_ne (by rw [← hD]; exact Nat.ne_of_lt hlt)).trans (f2 b hb).1, (f2 b hb).2⟩, ?_⟩
    rw [h3, Heap.size_push]
    exact Nat.lt_succ_of_lt hlt
  have st3 : tn 0 s3.heap := T.keep _ _ _ st2 fun b _ o z => by rw [h3]; exact Heap.get?_push_of_some _ z
  have I4 := block_start I3 ok hN f3
  have pg := hg s3 (upd H2 D (.lst [])) s3.heap.objs.size (cellsFrom (s3.heap.objs.size + 1) scope.names (cloFrom X.env.cells scope.names [])) fp
  have pt := ht s3 (upd H2 D (.lst [])) s3.heap.objs.size (cellsFrom (s3.heap.objs.size + 1) scope.names (cloFrom X.env.cells scope.names [])) fp
  have pe := he s3 (upd H2 D (.lst [])) s3.heap.objs.size (cellsFrom (s3.heap.objs.size + 1) scope.names (cloFrom X.env.cells scope.names [])) fp
  show codeAny _ _ (.compStart (.ListComp elt [⟨tg, iter, ifs, 0⟩] scope pos) 0 (.ref it) (.ref D) (compEnvC scope (cellsFrom (s3.heap.objs.size + 1) scope.names (cloFrom X.env.cells scope.names [])) s3.heap.objs.size X.env)) (cpX (model X.prog X.w) X.A X.xe use Qf (.ref D) s3.heap.objs.size X.env.frame) { s3 with heap := pushCells (s3.heap.push { cls := .type "dict", data := .dict #[] }) scope.names }
  have nfp : ∀ b ∈ fp, (upd H2 D (.lst [])) b = none := fun b hb => (f3 b hb).1.1
  generalize hce : compEnvC scope (cellsFrom (s3.heap.objs.size + 1) scope.names (cloFrom X.env.cells scope.names [])) s3.heap.objs.size X.env = ce at I4 pg pt pe ⊢
  have cL : ce.locals = s3.heap.objs.size := by subst hce; rfl
  have cFr : ce.frame = X.env.frame := by subst hce; rfl
  generalize hH3 : upd H2 D (.lst []) = H3 at I3 I4 pg pt pe w0 nfp f3
  generalize hs4 : ({ s3 with heap := pushCells (s3.heap.push { cls := .type "dict", data := .dict #[] }) scope.names } : Shared) = s4 at I4 ⊢
  have st4 : tn 0 s4.heap := T.keep _ _ _ st3 fun b _ o z => by rw [← hs4]; exact pushCells_keeps _ _ _ _ (Heap.get?_push_of_some _ z)
  have f3' : ∀ b ∈ fp, (b ∈ X.ex ∨ X.s_0.heap.objs.size ≤ b) ∧ b ≠ X.env.locals ∧ (∀ x c, X.env.cells.lookup x = some c → c ≠ b) ∧ ∀ p ∈ X.pn ++ pins, p.1 ≠ b := fun b hb => ⟨(f3 b hb).1.2.2.2.1, (f3 b hb).1.2.1, (f3 b hb).1.2.2.2.2.1, (f3 b hb).1.2.2.2.2.2⟩
  have I4 : Inv (blkX X E s3 H3 scope ce fp) [] (L2.wipe σ (own.map (·.2))) H3 s4 := I4.wish _
  have out : ∀ u s', XE (X.blk s3 H3 scope ce fp) (WE' E) u s' → notedBy (model X.prog X.w) X.A ce (fun e t => cpX (model X.prog X.w) X.A X.xe use Qf (.ref D) s3.heap.objs.size X.env.frame (.error e) t) u s' := fun u s' x => by
    have z := blk_out (use := use) (Qf := Qf) (acc := .ref D) tk hs hf I3 f3' cL cFr x
    rw [cFr] at z
    exact z
  have thO : ∀ {α : Type} {t : Sem α} {Q Q' : α → Shared → Prop} {s : Shared}, wpAny (model X.prog X.w) X.A t Q (blkX X E s3 H3 scope ce fp).xe s → (∀ a s, Q a s → Q' a s) → wpAny (model X.prog X.w) X.A t Q' (notedBy (model X.prog X.w) X.A ce (fun e t => cpX (model X.prog X.w) X.A X.xe use Qf (.ref D) s3.heap.objs.size X.env.frame (.error e) t)) s := fun h1 h2 => wpAny_mono h1 h2 out
  have stat : ∀ {σ' : L2.St} {H' : Hp} {s' : Shared}, Inv (blkX X E s3 H3 scope ce fp) [] σ' H' s' → (∀ b ∈ fp, H' b = none) → ∀ b ∈ fp, FpOk (blkX X E s3 H3 scope ce fp) [] H' b := fun {σ' H' s'} I' hn b hb =>
    ⟨hn b hb, (I'.ok.exf b hb).1, I'.ok.exfs b hb, .inl hb, fun x c z => (I'.ok.exf b hb).2 x c z, fun p hp => absurd (show p ∈ ([] : List (Addr × Obj)) ++ [] from hp) (by simp)⟩
  have loop : codeAny (model X.prog X.w) X.A (.compLoop (.ListComp elt [⟨tg, iter, ifs, 0⟩] scope pos) 0 (.ref it) (.ref D) ce) (cpX (model X.prog X.w) X.A X.xe use Qf (.ref D) s3.heap.objs.size X.env.frame) s4 := by
    refine compLoop_any (fun n s' => ∃ i H', Inv (blkX X E s3 H3 scope ce fp) [] (L2.wipe σ (own.map (·.2))) H' s' ∧ tn i s'.heap ∧ (∀ b ∈ fp, H' b = none) ∧ W i n H') ?_ m0 ⟨0, H3, I4, st4, nfp, w0⟩
    rintro n s5 ⟨i, H5, I5, st5, n5, w5⟩
    rcases turn i n H5 w5 with ⟨stop, qq⟩ | ⟨go, Nx, hNx, step⟩
    · refine thnF (T.done (blkX X E s3 H3 scope ce fp) rfl rfl rfl hc i [] s5 _ H5 (fun _ _ => False) I5 (stat I5 n5) st5 stop) fun r s6 hr6 => ?_
      obtain ⟨hr, I6⟩ := hr6
      subst hr
      have nC : H5 s3.heap.objs.size = none := by
        have z : H5 ce.locals = none := I6.free
        rwa [cL] at z
      obtain ⟨m, hn, _⟩ := I6.loc
      have hn : s6.heap.Ns ce.locals m := hn
      rw [cL] at hn
      exact hRR D s3.heap.objs.size s6 m H5 (I3.call' (ch := fp) I6.os I6.base I6.hok I6.bare f3') qq hn (I3.fpOk (Nat.le_refl _) nC)
    · refine thnF (T.item (blkX X E s3 H3 scope ce fp) rfl rfl rfl hc i [] s5 _ H5 (fun _ _ => False) I5 (stat I5 n5) st5 go) fun r s6 hr6 => ?_
      obtain ⟨u, hr, h6⟩ := hr6
      subst hr
      refine thnF h6 fun _ s7 h7 => ?_
      obtain ⟨x, H7, I7, r7, y7, st7, n7⟩ := h7
      have I7' := I7.pinned (stat I7 n7) (T.obj _ _ st7)
      refine thO (pg.run _ s7 _ H7 x u _ I7' r7 (step x H7 y7)) fun _ s8 h8 => ?_
      obtain ⟨σ8, H8, I8, hw8, q8⟩ := h8
      refine thO (pt.run _ s8 σ8 H8 _ I8 q8) fun b s9 h9 => ?_
      obtain ⟨H9, I9, q9⟩ := h9
      have fin : ∀ {s' : Shared} {H' : Hp}, Inv (blkX X E s3 H3 scope ce fp) ([] ++ pinsAt fp s7.heap) σ8 H' s' → Nx H' → ∃ m, m < n ∧ ∃ i H', Inv (blkX X E s3 H3 scope ce fp) [] (L2.wipe σ (own.map (·.2))) H' s' ∧ tn i s'.heap ∧ (∀ b ∈ fp, H' b = none) ∧ W i m H' := fun {s' H'} I' nx => by
        obtain ⟨m', hm, w'⟩ := hNx H' nx
        have pin' : ∀ b ∈ fp, ∀ o, s7.heap.get? b = some o → s'.heap.get? b = some o ∧ H' b = none := fun b hb o z =>
          ⟨(I'.pin (b, o) (List.mem_append_right _ (List.mem_append_right _ (mem_pinsAt hb z)))).1, (I'.pin (b, o) (List.mem_append_right _ (List.mem_append_right _ (mem_pinsAt hb z)))).2.1⟩
        refine ⟨m', hm, i + 1, H', (I'.unpinned (pins := [])).weak (by rw [← hw8, wipe_length]) (fun j v z => ?_), T.keep _ _ _ st7 fun b hb o z => (pin' b hb o z).1, fun b hb => ?_, w'⟩
        · rw [← hw8] at z
          exact (wipe_some z).1
        · obtain ⟨o, z, _⟩ := T.obj _ _ st7 b hb
          exact (pin' b hb o z).2
      cases b with
      | false => exact fin I9 q9
      | true =>
        refine thO (pe.run _ s9 σ8 H9 _ I9 q9) fun z s10 h10 => ?_
        obtain ⟨yv, H10, I10, r10, acc, hD10, hz10, nx⟩ := h10
        exact app_ok (X := blkX X E s3 H3 scope ce fp) I10 hD10 hz10 r10 fun s11 I11 => fin I11 nx
  exact codeAny_compStart_list loop (T.self X.A 0 _ _ _ st4 loop)
/-- as a value -/
theorem pe_lcX {elt tg iter : Expr} {ifs : List Expr} {own : List (Str × Nat)} {pos : Pos} {wi : TI} {g : TG} {tt : TT} {te : TE} (tk : Takes X (WE' E)) (hs : X.stack = X.env :: X.outer) (hf : X.env.frame = some X.env.locals) (hc : X.calm = true) (hN : X.N.Nodup) (hi : PI X tg iter wi) (ok : BlkOk X.N X.env.scope scope own)
    (hg : ∀ (s : Shared) (H : Hp) (C : Addr) (cl : List (Str × Addr)) (fp : List Addr), PG (blkX X E s H scope (compEnvC scope cl C X.env) fp) tg g)
    (ht : ∀ (s : Shared) (H : Hp) (C : Addr) (cl : List (Str × Addr)) (fp : List Addr), PTs (blkX X E s H scope (compEnvC scope cl C X.env) fp) ifs tt)
    (he : ∀ (s : Shared) (H : Hp) (C : Addr) (cl : List (Str × Addr)) (fp : List Addr), PE (blkX X E s H scope (compEnvC scope cl C X.env) fp) elt te) (hsx : ∀ x, foldedSetIterable iter X.env x = pure x := by intro _; rfl) :
    PE X (.ListComp elt [⟨tg, iter, ifs, 0⟩] scope pos) (tLc wi g tt te (own.map (·.2))) := by
  refine ⟨fun pins s σ H Q I h => ?_⟩
  rw [eval_ListComp]
  refine lc_coreX tk hs hf hc hN I hi ok hg ht he hsx h fun D C s' m H' I' q hn f => ?_
  exact ⟨m, hn, fun h'' sb => ⟨.ref D, H', I'.turned (t' := s'.toks) (fun b o hb z => (sb.2 b hb).trans z) f.1 f.2.1 f.2.2.2.1 f.2.2.2.2.1 f.2.2.2.2.2, rfl, q⟩⟩
/-- name = [..] on one line, the name a local -/
theorem ps_setLcX {i : Nat} {y : Str} {py : Pos} {elt tg iter : Expr} {ifs : List Expr} {own : List (Str × Nat)} {pos spos : Pos} {wi : TI} {g : TG} {tt : TT} {te : TE} (tk : Takes X (WE' E)) (hs : X.stack = X.env :: X.outer) (hf : X.env.frame = some X.env.locals) (hc : X.calm = true) (hN : X.N.Nodup)
    (hy : X.N[i]? = some y) (hyl : X.env.scope.names.lookup y = some .local) (hsw : swapsWith (.ListComp elt [⟨tg, iter, ifs, 0⟩] scope pos) (some (.Name y py)) spos.line X.env = pure true) (hi : PI X tg iter wi) (ok : BlkOk X.N X.env.scope scope own)
    (hg : ∀ (s : Shared) (H : Hp) (C : Addr) (cl : List (Str × Addr)) (fp : List Addr), PG (blkX X E s H scope (compEnvC scope cl C X.env) fp) tg g)
    (ht : ∀ (s : Shared) (H : Hp) (C : Addr) (cl : List (Str × Addr)) (fp : List Addr), PTs (blkX X E s H scope (compEnvC scope cl C X.env) fp) ifs tt)
    (he : ∀ (s : Shared) (H : Hp) (C : Addr) (cl : List (Str × Addr)) (fp : List Addr), PE (blkX X E s H scope (compEnvC scope cl C X.env) fp) elt te) (hsx : ∀ x, foldedSetIterable iter X.env x = pure x := by intro _; rfl) :
    PS X (.Assign [.Name y py] (.ListComp elt [⟨tg, iter, ifs, 0⟩] scope pos) spos) (tAsg (tLc wi g tt te (own.map (·.2))) (gName i)) := by
  refine ⟨fun pins s σ H D I h => ?_⟩
  rw [exec_Assign_Name_used _ _ _ _ hsw]
  refine wpAny_bind (wpAny_standAt (wpAny_bind ?_))
  show wpAny _ X.A (do let _ ← comprehension (.ListComp elt [⟨tg, iter, ifs, 0⟩] scope pos) scope X.env (firstIterPos [⟨tg, iter, ifs, 0⟩] pos) (newList []) false (eval iter X.env) (some (PySem.assign (.Name y py) X.env))) _ _ s
  have h : tLc wi g tt te (own.map (·.2)) σ H (fun x H1 => gName i x σ H1 D.nx) := h
  refine wpAny_bind (thn (lc_coreX (Qf := fun _ s' => SP X pins D .next s') tk hs hf hc hN I hi ok hg ht he hsx h fun L C s' m H' I' q hn f => ?_) fun _ s' hq => wpAny_pure (wpAny_pure hq))
  show wpAny _ _ (PySem.assign (.Name y py) X.env (.ref L)) _ _ _
  refine wpAny_assign_Name (store_ok2 (v := V.ref L) I' hN hy (.inl hyl) rfl (fun s2 I2 hx => ?_) (.inr hyl))
  obtain ⟨a, sb, ha⟩ := hx
  have haC : C ≠ a := by
    rcases ha with z | z
    · rw [z]; exact f.2.1
    · exact fun z2 => f.2.2.2.2.1 y a z z2.symm
  exact ⟨m, hn.sameBut sb haC, fun h3 sb3 => ⟨_, H', I2.turned (t' := s2.toks) (fun b o hb z => (sb3.2 b hb).trans z) f.1 f.2.1 f.2.2.2.1 f.2.2.2.2.1 f.2.2.2.2.2, q⟩⟩
end
end Gd

namespace Gd
open PySem PySem.Spec PyProof.Rows L2 PySem.W L2H HotX
/-! ### try: .. except C as n: raise D('..') from n -/
/-- the heap behind «from e» -/
def causeFrom (h : Heap) (a x1 : Addr) : Heap := (h.update a (Obj.mapFields (·.setIfInBounds 3 (.ref x1)))).update a (Obj.mapFields (·.setIfInBounds 4 (.bool true)))
theorem cause_at {h : Heap} {a x1 : Addr} {oe : Obj} {vs : Array Value} (ha : h.get? a = some oe) (hd : oe.data = .fields vs) :
    (causeFrom h a x1).get? a = some ((oe.mapFields (·.setIfInBounds 3 (.ref x1))).mapFields (·.setIfInBounds 4 (.bool true))) ∧ ((oe.mapFields (·.setIfInBounds 3 (.ref x1))).mapFields (·.setIfInBounds 4 (.bool true))).data = .fields ((vs.setIfInBounds 3 (.ref x1)).setIfInBounds 4 (.bool true)) := by
  have d3 := Obj.data_mapFields hd (·.setIfInBounds 3 (.ref x1))
  have d4 := Obj.data_mapFields d3 (·.setIfInBounds 4 (.bool true))
  exact ⟨Heap.get?_update_self _ (Heap.get?_update_self _ ha (Obj.isFreed_of_fields d3)) (Obj.isFreed_of_fields d4), d4⟩
theorem cause_other {h : Heap} {a b x1 : Addr} (hne : a ≠ b) : (causeFrom h a x1).get? b = h.get? b := (Heap.get?_update_other _ _ hne).trans (Heap.get?_update_other _ _ hne)
section
variable {prog : Program} {w : World} {A : Around} {Ex : Value → Shared → Prop} {s : Shared}
theorem not_type {a : Addr} {oe : Obj} {vs : Array Value} (ha : s.heap.get? a = some oe) (hd : oe.data = .fields vs) {Q : Bool → Shared → Prop} (q : Q false s) : wpAny (model prog w) A (isType (.ref a)) Q Ex s := by
  simp only [isType, loadHead]
  refine wpAny_bind (wpAny_loadPart ha ?_)
  rw [hd]
  exact wpAny_pure q
theorem exc_value {a : Addr} {oe : Obj} {vs : Array Value} {msg : String} (ha : s.heap.get? a = some oe) (hd : oe.data = .fields vs) (L : Looks (model prog w) s.heap (isInstance (.ref a) (.type "BaseException")) true) {Q : Value → Shared → Prop} (q : Q (.ref a) s) : wpAny (model prog w) A (excFromValue (.ref a) msg) Q Ex s := by
  unfold excFromValue isExcClass
  refine wpAny_bind (wpAny_bind (not_type ha hd ?_))
  simp only [Bool.false_eq_true, if_false]
  refine wpAny_pure ?_
  simp only [Bool.false_eq_true, if_false]
  refine wpAny_bind (L.here ?_)
  simp only [if_true]
  exact wpAny_pure q
theorem raise_from {env : Env} {x c : Sem Value} {Q : Flow → Shared → Prop} {x1 : Addr}
    (h : wpAny (model prog w) A x (fun v s1 => wpAny (model prog w) A c (fun cv s2 => cv = .ref x1 ∧ ∃ a oe vs cls, v = .ref a ∧ s2.heap.get? a = some oe ∧ oe.cls = cls ∧ oe.data = .fields vs ∧ vs[1]? = some .none ∧ 4 < vs.size ∧ x1 ≠ a ∧ HotAt A x1 s2.heap ∧
      Looks (model prog w) s2.heap (isSubtype cls (.type "BaseException")) true ∧ Looks (model prog w) s2.heap (isInstance (.ref x1) (.type "BaseException")) true ∧ Looks (model prog w) (causeFrom s2.heap a x1) (typeOf cls) (.type "type") ∧
      Ex (.ref a) { s2 with heap := (causeFrom s2.heap a x1).update a (Obj.mapFields (·.setIfInBounds 2 (.ref x1))) }) Ex s1) Ex s) : wpAny (model prog w) A (raiseStmt env (some x) (some c)) Q Ex s := by
  unfold raiseStmt
  dsimp only
  refine wpAny_bind (wpAny_mono h (fun v s1 h1 => ?_) fun _ _ z => z)
  refine wpAny_bind (wpAny_holding (wpAny_mono h1 (fun cv s2 h2 => ?_) fun _ _ z => z))
  obtain ⟨rfl, a, oe, vs, cls, rfl, ha, hcls, hd, h1, hi, hne, hot, L1, L2, L3, hE⟩ := h2
  have LT : Looks (model prog w) s2.heap (typeOf (.ref a)) cls := fun A Q E s k q => wpAny_typeOf_ref (k _ _ ha) (by rw [hcls]; exact q)
  obtain ⟨ha4, hd4⟩ := cause_at (x1 := x1) ha hd
  have d3 := Obj.data_mapFields hd (·.setIfInBounds 3 (.ref x1))
  have a3 := Heap.get?_update_self (Obj.mapFields (·.setIfInBounds 3 (.ref x1))) ha (Obj.isFreed_of_fields d3)
  have s3 : 3 < vs.size := by omega
  have s4 : 4 < (vs.setIfInBounds 3 (Value.ref x1)).size := by rw [set_size]; exact hi
  have z2 : 2 < ((vs.setIfInBounds 3 (Value.ref x1)).setIfInBounds 4 (Value.bool true)).size := by rw [set_size, set_size]; omega
  have h14 : ((vs.setIfInBounds 3 (Value.ref x1)).setIfInBounds 4 (Value.bool true))[1]? = some Value.none := HotX.set_other (by decide) (HotX.set_other (by decide) h1)
  have c4 : ((oe.mapFields (·.setIfInBounds 3 (.ref x1))).mapFields (·.setIfInBounds 4 (.bool true))).cls = cls := by rw [Obj.cls_mapFields, Obj.cls_mapFields]; exact hcls
  have LT4 : Looks (model prog w) (causeFrom s2.heap a x1) (typeOf (.ref a)) cls := fun A Q E s k q => wpAny_typeOf_ref (k _ _ ha4) (by rw [c4]; exact q)
  obtain ⟨q1, o1, vs1, q2, q3, q4⟩ := id hot
  have hot4 : HotAt A x1 (causeFrom s2.heap a x1) := ⟨q1, o1, vs1, by rw [cause_other (Ne.symm hne)]; exact q2, q3, q4⟩
  refine wpAny_bind (wpAny_pure ?_)
  refine wpAny_bind (wpAny_holding (exc_value ha hd (LT.andThen L1) ?_))
  dsimp only
  rw [if_neg (show ¬ ((Value.ref x1 == Value.none) = true) from by simp)]
  refine wpAny_bind (wpAny_holding (exc_value q2 q3 L2 ?_))
  refine wpAny_bind (wpAny_setField ha hd s3 (wpAny_bind (wpAny_setField a3 d3 s4 ?_)))
  show wpAny (model prog w) A _ Q Ex { s2 with heap := causeFrom s2.heap a x1 }
  refine wpAny_bind (not_type ha4 hd4 ?_)
  simp only [Bool.false_eq_true, if_false]
  unfold raisedInstance
  refine wpAny_bind (wpAny_bind (LT4.here (wpAny_bind (L3.here ?_))))
  rw [if_pos (beq_self_eq_true _)]
  refine wpAny_pure ?_
  unfold setFlight
  refine wpAny_bind (wpAny_bind (wpAny_field ha4 hd4 h14 ?_))
  rw [if_neg (by decide)]
  refine wpAny_pure ?_
  exact raiseNew_hot hot4 hne ha4 hd4 z2 hE
end
section
variable {X : Cx} {pins : List (Addr × Obj)} {σ : L2.St} {H : Hp} {s : Shared}
theorem isCell_hide {h G : Heap} {c : Addr} {v : Option Value} (e : G.get? c = h.get? c) (z : h.IsCell c v) : G.IsCell c v := by
  unfold Heap.IsCell at *
  rw [e]
  exact z
theorem ns_hide {h G : Heap} {L : Addr} {m : Str → Option Value} (e : G.get? L = h.get? L) (n : h.Ns L m) : G.Ns L m := by
  obtain ⟨o, es, ep, ho, r⟩ := n
  exact ⟨o, es, ep, e.trans ho, r⟩
/-- objects that nobody tracks are hidden -/
theorem Inv.hide (I : Inv X pins σ H s) {G : Heap} {p : Addr → Prop} (g : ∀ b, ¬ p b → G.get? b = s.heap.get? b) (n : ∀ b, p b → G.get? b = none) (hs0 : ∀ b, p b → X.s_0.heap.get? b = none) (hH : ∀ b, p b → H b = none) (hL : ¬ p X.env.locals)
    (hC : ∀ x c, X.env.cells.lookup x = some c → ¬ p c) (hp : ∀ q ∈ X.pn ++ pins, ¬ p q.1) : Inv X pins σ H { s with heap := G } := by
  have s0 : ∀ b o, X.s_0.heap.get? b = some o → ¬ p b := fun b o e z => by rw [hs0 b z] at e; cases e
  have tr : ∀ b u, H b = some u → ¬ p b := fun b u e z => by rw [hH b z] at e; cases e
  refine ⟨I.ok, I.os, I.bare, ⟨fun b o e a1 a2 a3 => (g b (s0 b o e)).trans (I.base.keep b o e a1 a2 a3), fun b o e a1 a2 a3 => ?_, I.base.free, fun b o e a1 => ?_, I.base.tups, I.base.frzs, I.base.tbls⟩, ?_, fun x c e => ?_, I.free, I.freeC, fun q hq => ?_, fun b u e => ?_, I.len⟩
  · obtain ⟨sl, z⟩ := I.base.slot b o e a1 a2 a3
    exact ⟨sl, (g b (s0 b o e)).trans z⟩
  · obtain ⟨o', z⟩ := I.base.there b o e a1
    exact ⟨o', (g b (s0 b o e)).trans z⟩
  · obtain ⟨m, h1, h2⟩ := I.loc
    refine ⟨m, ns_hide (g _ hL) h1, fun i x v a1 a2 a3 => ?_⟩
    obtain ⟨u, r, l⟩ := h2 i x v a1 a2 a3
    refine ⟨u, r, l.imp id fun z => ⟨z.1, ?_⟩⟩
    obtain ⟨c, c1, c2⟩ := z.2
    exact ⟨c, c1, isCell_hide (g _ (hC _ _ c1)) c2⟩
  · obtain ⟨v, z⟩ := I.cell x c e
    exact ⟨v, isCell_hide (g _ (hC _ _ e)) z⟩
  · obtain ⟨a1, a2⟩ := I.pin q hq
    exact ⟨(g _ (hp q hq)).trans a1, a2⟩
  · refine (I.hok b u e).stay (fun c v hc q => ?_) (fun _ q => q) fun _ _ q => q
    refine (g c ?_).trans q
    rcases hc with z | z
    · rw [z]; exact tr b u e
    · exact tr c _ z
/-- what isn't there is nobody's -/
theorem Inv.away (I : Inv X pins σ H s) (hex : X.ex = []) {b : Addr} (hb : s.heap.get? b = none) : X.s_0.heap.get? b = none ∧ H b = none ∧ b ≠ X.env.locals ∧ (∀ x c, X.env.cells.lookup x = some c → c ≠ b) ∧ ∀ q ∈ X.pn ++ pins, q.1 ≠ b := by
  refine ⟨?_, I.hok.gone hb, fun z => ?_, fun x c e z => ?_, fun q hq z => ?_⟩
  · cases q : X.s_0.heap.get? b with
    | none => rfl
    | some o =>
      obtain ⟨o', z⟩ := I.base.there b o q (by rw [hex]; exact List.not_mem_nil)
      rw [hb] at z; cases z
  · obtain ⟨m, ⟨o, es, ep, ho, r⟩, -⟩ := I.loc
    rw [← z, hb] at ho; cases ho
  · obtain ⟨v, q⟩ := I.cell x c e
    unfold Heap.IsCell at q
    rw [z, hb] at q
    obtain ⟨_, q1, _⟩ := q
    cases q1
  · have := (I.pin q hq).1
    rw [z, hb] at this; cases this
theorem Inv.pin2 (I : Inv X pins σ H s) {q : Addr × Obj} {vs : Array Value} (h1 : s.heap.get? q.1 = some q.2) (h2 : q.2.data = .fields vs) (h3 : H q.1 = none) (h4 : q.1 ≠ X.env.locals) (h5 : q.1 ∉ X.fs) : Inv X (q :: pins) σ H s :=
  ⟨I.ok, I.os, I.bare, I.base, I.loc, I.cell, I.free, I.freeC, fun r hr => by
    rcases List.mem_append.mp hr with z | z
    · exact I.pin r (List.mem_append_left _ z)
    · rcases List.mem_cons.mp z with z | z
      · rw [z]; exact ⟨h1, h3, h4, h5, fun v e => by rw [h2] at e; cases e⟩
      · exact I.pin r (List.mem_append_right _ z), I.hok, I.len⟩
/-- an own exception is made -/
theorem exc_made {C : Addr} {x msg : Str} {j : Nat} {p p2 pos : Pos} {K : PySem.W.Frag} {mg : Str → Option Value} {Q : Value → Shared → Prop} (t : ExcT K mg x C) (hK : X.K = K) (hm : X.mg = mg) (hg : Gl X x) (I : Inv X pins σ H s)
    (h : ∀ s1 h2 e us, Inv X pins σ H s1 → Heap.MadeExcOf s1.heap h2 e (.ref C) us → Q (.ref e) { s1 with heap := h2 }) (hdb : (x == ("__debug__" : Str)) = false := by decide) :
    wpAny (model X.prog X.w) X.A (eval (.Call (.Name x p) [.Constant (.str msg) j p2] [] pos) X.env) Q X.xe s := by
  subst hK hm
  refine wpAny_Call_Name_kw (ld_glob I hg t.g ?_ hdb)
  have ha : PA X [.Constant (.str msg) j p2] (tCons (tC (.str msg)) tNil) := pa_cons pe_str pa_nil
  refine PySem.W.callWith_K (h₀ := X.base) I.ok.mod.kin t.kp (thn (ha.run pos pins s σ H (fun vs H1 => vs = [V.str msg] ∧ H = H1) I ⟨rfl, rfl⟩) fun us s1 hh => ?_)
  obtain ⟨vs, H1, I1, r1, ev, eH⟩ := hh
  subst ev
  rw [← eH] at I1
  refine ⟨I1.kIn, ?_⟩
  cases r1 with
  | cons ru rn =>
    rename_i u us'
    cases rn
    show wpAny _ _ (call (.ref C) [u]) _ _ _
    have eo := exc_obj I1.kIn t.ex
    obtain ⟨bm, N, nm, qn, bs, hdct, sn, sub, ab, col, dd, k0, k1, k2, k3, k5, mN, hC, hN, hni, T⟩ := eo
    exact wpAny_call_exc_subT PySem.F.excBase_IndexError T hC hN hni (fun h2 e hm => h s1 h2 e _ I1 hm) (by show 1 ≤ sizeLine; rw [sizeLine_eq]; omega)
end
section
variable {X : Cx} {E : XK} {x n y msg : Str} {c : Value} {C2 : Addr} {i jt : Nat} {body : List Stmt} {tb : WX → TS} {np p1 p2 p3 p4 p5 pos pos' : Pos}
abbrev wFrom (K : PySem.W.Frag) (c : Value) (C2 : Addr) (E : XK) : WX := fun cls d _ H' => PySem.W.exmOne K cls c = some true ∧ PySem.W.subIn K cls (.type "BaseException") = some true ∧ E (.ref C2) none H'
theorem ps_tryFrom (hs : X.stack = X.env :: X.outer) (hf : X.env.frame = some X.env.locals) (hex : X.ex = []) (hN : X.N.Nodup) (hi : X.N[i]? = some n) (hln : X.env.kindOf n = some .local) (hvn : Vis X.env.scope n) (hc : Names X x c) (tk : L2.Takes X (WE' E))
    (hpa : ∀ hd : Option Value, PassesOwnAt (model X.prog X.w) (X.A.mark hd) X.A X.env X.xe)
    (hb : ∀ (W : WX) (pn : List (Addr × Obj)) (xe : Value → Shared → Prop), L2N.Takes (X.tr pn xe) W → PassesOwn (model X.prog X.w) X.A X.env xe → PSs (X.tr pn xe) body (tb W))
    (t : ExcT X.K X.mg y C2) (hg : Gl X y) (hdb : (y == ("__debug__" : Str)) = false := by decide) (hdn : (n == ("__debug__" : Str)) = false := by decide) (hcd : (n == ("__classdict__" : Str)) = false := by decide) :
    PS X (.Try body [.ExceptHandler (some (.Name x np)) (some n) [.Raise (some (.Call (.Name y p1) [.Constant (.str msg) jt p2] [] p3)) (some (.Name n p4)) p5] pos'] [] [] pos) (fun D σ H => tb (wFrom X.K c C2 E) D σ H) := by
  refine ⟨fun pins s σ H D I h => ?_⟩
  have ok := I.ok
  have hfr : X.A.frames = some (X.env :: X.outer) := by rw [ok.frames, hs]
  have hloc : Loc X.env.scope n := .inl hln
  have noFr : ∀ {B h : Heap} {a : Addr} {o : Obj} {vs : Array Value}, h.FunFrames B (X.env :: X.outer) → h.get? a = some o → o.data = .fields vs → a ∉ frs (X.env :: X.outer) := fun {B h a o vs} ff q dd hm => by
    obtain ⟨_, o', q', nf⟩ := ff.mem hm
    rw [q] at q'; cases q'
    exact nf _ dd
  refine wpAny_Try_except ?_
  refine wpAny_mono ((hb (wFrom X.K c C2 E) (X.pn ++ pins) (fun e t1 => wpAny (model X.prog X.w) X.A (noteFrame e X.env) (fun _ t2 => wpAny (model X.prog X.w) X.A (setFlight e none) (fun _ t3 => wpAny (model X.prog X.w) X.A (handleBy e X.env [.ExceptHandler (some (.Name x np)) (some n) [.Raise (some (.Call (.Name y p1) [.Constant (.str msg) jt p2] [] p3)) (some (.Name n p4)) p5] pos']) (SP X pins D) X.xe t3) X.xe t2) X.xe t1) (fun u s' xx => ?_) PassesOwn.looking).run [] s σ H D (I.toTry _) h) (fun f s1 hsp => ?_) (fun e s1 he => he)
  · obtain ⟨a, B, sI, pins', σ', H', cls, d, rfl, J', nb, up, sky, na, os, ag, hm, hsb, hE⟩ := xx
    have J : L2.Inv X pins σ' H' sI := J'.ofTry ok
    have sky' : L2.Sky B (X.env :: X.outer) a (L2N.Zn cls d) X.env.locals s'.heap := by rw [← hs]; exact sky
    show wpAny (model X.prog X.w) X.A (noteFrame (.ref a) X.env) _ _ _
    refine L2N.Sky.land L2N.Zn.steady hfr hf sky' fun h3 fl3 up3 => ?_
    have J3 : L2.Inv X pins σ' H' { s' with heap := h3 } := J.landed nb fl3.1 (up.trans up3) os ag
    obtain ⟨oe3, vs3, he3, hz3, hd3⟩ := fl3.there
    have nfr := noFr fl3.2.2.1 he3 hd3
    have nL : a ≠ X.env.locals := fun z => nfr (List.mem_filterMap.mpr ⟨X.env, List.mem_cons_self, by rw [hf, z]⟩)
    have nF : a ∉ X.fs := fun hm => by
      obtain ⟨e, he, q⟩ := List.mem_filterMap.mp hm
      exact nfr (List.mem_filterMap.mpr ⟨e, List.mem_cons_of_mem _ he, q⟩)
    have S3 := J3.suite he3 hd3 na nL nF
    refine wpAny_handleBy_cons (codeAny_handlers_test ?_) (by intro q; cases q)
    have LT : Looks (model X.prog X.w) h3 (typeOf (.ref a)) cls := fun A Q E s k q => wpAny_typeOf_ref (k _ _ he3) (by rw [hz3.1]; exact q)
    have LM := PySem.W.exm_one (M := model X.prog X.w) (J3.kIn) LT hm
    have test : ∀ {Q : Value → Shared → Prop} {Ex : Value → Shared → Prop}, Q c { s' with heap := h3 } → wpAny (model X.prog X.w) (X.A.mark (some (.ref a))) (eval (.Name x np) X.env) Q Ex { s' with heap := h3 } := fun {Q Ex} q => by
      obtain ⟨hg, hdbg, hm | ⟨hm, hv, hnn⟩⟩ := hc
      · exact ld_glob (X := X.suite a ((a, oe3) :: (X.pn ++ pins))) S3 hg hm q hdbg
      · exact ld_blt (X := X.suite a ((a, oe3) :: (X.pn ++ pins))) S3 hg hm hv q hnn hdbg
    refine test (LM.here ?_)
    refine codeAny_handlers_suite_as ?_
    refine HandSPX.lands_againZ fl3 fun h4 fl4 up4 => ?_
    have J4 : L2.Inv X pins σ' H' { s' with heap := h4 } := J.landed nb fl4.1 ((up.trans up3).trans up4) os ag
    obtain ⟨oe4, vs4, he4, hz4, hd4⟩ := fl4.there
    have S4 := J4.suite he4 hd4 na nL nF
    refine store_ok (X := X.suite a ((a, oe4) :: (X.pn ++ pins))) (v := .ref a) S4 hN hi hloc rfl (fun s5 S5 => ?_) (.inr hln)
    -- the suite: raise
    have hot : ∀ {h : Heap}, h.get? a = some oe4 → HotAt (X.A.mark (some (.ref a))) a h := fun q => ⟨rfl, oe4, vs4, q, hd4, hz4.2.2 vs4 hd4⟩
    have T5 : L2.Inv (suiteX X a ((a, oe4) :: (X.pn ++ pins))) [] (σ'.set i (some (.ref a))) H' s5 := suiteX_of S5
    refine wpAny_execs_cons ?_
    show wpAny _ (X.A.mark (some (.ref a))) (do standAt p5; raiseStmt X.env (some (do let v ← eval (.Call (.Name y p1) [.Constant (.str msg) jt p2] [] p3) X.env; standAt p5; pure v)) (some (do let v ← eval (.Name n p4) X.env; standAt p5; pure v))) _ _ _
    refine wpAny_bind (wpAny_standAt (raise_from (x1 := a) (wpAny_bind ?_)))
    refine wpAny_mono (exc_made (X := X.suite a ((a, oe4) :: (X.pn ++ pins))) t rfl rfl hg S5 (fun s1 h2 e us I1 hm => ?_) hdb) (fun _ _ z => z) (fun _ _ z => False.elim z)
    refine wpAny_bind (wpAny_standAt (wpAny_pure ?_))
    have hil : i < (σ' : L2.St).length := by
      rw [J.len]
      exact (List.getElem?_eq_some_iff.mp hi).1
    have I2 : L2.Inv (X.suite a ((a, oe4) :: (X.pn ++ pins))) [] (σ'.set i (some (.ref a))) H' { s1 with heap := h2 } := I1.kept (t' := s1.toks) hm.keeps
    obtain ⟨t0, he2, -, -⟩ := hm.there
    have ha1 : s1.heap.get? a = some oe4 := (I1.pin (a, oe4) (List.mem_append_left _ List.mem_cons_self)).1
    have nae : a ≠ e := fun z => by rw [z, hm.new] at ha1; cases ha1
    have ha2 := hm.keeps _ _ ha1
    obtain ⟨m2, n2, l2⟩ := I2.loc
    obtain ⟨u, r, l⟩ := l2 i n (.ref a) hi (List.getElem?_set_self hil) hvn
    have r : u = .ref a := r
    subst r
    rcases l with ⟨lk, lm⟩ | ⟨lk, -⟩
    case inr =>
      have lk : X.env.kindOf n = some .cell ∨ X.env.kindOf n = some .free := lk
      rw [hln] at lk
      rcases lk with lk | lk <;> cases lk
    refine wpAny_bind (wpAny_Name (wpAny_loadName_local I2.ok.kind lk n2 lm (wpAny_bind (wpAny_standAt (wpAny_pure ?_)))) hdn)
    obtain ⟨c1, c2⟩ := cause_at (x1 := a) he2 rfl
    have R2 := raises_own (X := X.suite a ((a, oe4) :: (X.pn ++ pins))) t.sb t.ty
    have LT2 : Looks (model X.prog X.w) h2 (typeOf (.ref a)) cls := fun A Q E s k q => wpAny_typeOf_ref (k _ _ ha2) (by rw [hz4.1]; exact q)
    have kc : ∀ b o, s1.heap.get? b = some o → (causeFrom h2 e a).get? b = some o := fun b o q => by
      have ne : e ≠ b := fun z => by rw [← z, hm.new] at q; cases q
      rw [cause_other ne]
      exact hm.keeps b o q
    refine ⟨rfl, e, _, _, .ref C2, rfl, he2, rfl, rfl, rfl, (show 4 < 6 by decide), nae, hot ha2, (R2 _ _ I2.kIn).1, LT2.andThen (PySem.W.looks_subIn I2.kIn hsb), (R2 _ _ (I1.kIn.keeps kc)).2, ?_⟩
    have d6 := Obj.data_mapFields c2 (·.setIfInBounds 2 (.ref a))
    have e6 := Heap.get?_update_self (Obj.mapFields (·.setIfInBounds 2 (.ref a))) c1 (Obj.isFreed_of_fields d6)
    generalize hh6 : (causeFrom h2 e a).update e (Obj.mapFields (·.setIfInBounds 2 (.ref a))) = h6 at e6
    have k6 : ∀ b o, s1.heap.get? b = some o → h6.get? b = some o := fun b o q => by
      have ne : e ≠ b := fun z => by rw [← z, hm.new] at q; cases q
      rw [← hh6, Heap.get?_update_other _ _ ne]
      exact kc b o q
    have hB6 : (PySem.W.hideAll s1.heap (frs X.stack)).get? e = none := by
      cases q : (PySem.W.hideAll s1.heap (frs X.stack)).get? e with
      | none => rfl
      | some o =>
        have z := PySem.W.of_hideAll _ q
        rw [hm.new] at z; cases z
    have st1 : s1.heap.FunFrames X.base X.stack := I1.stack
    have ff6 : h6.FunFrames (PySem.W.hideAll s1.heap (frs X.stack)) (X.env :: X.outer) := by
      rw [← hs]
      exact Heap.FunFrames.of_keeps (fun b o q _ => ⟨o, k6 b o q, rfl⟩) (funFrames_none st1 fun b hb => PySem.W.hideAll_none _ hb)
    show wpAny (model X.prog X.w) (X.A.mark (some (.ref a))) (noteFrame (.ref e) X.env) _ _ _
    refine HandSPX.look_newZ (Z := Zc (.ref C2) none) (s := { s1 with heap := h6 }) Zc.steady hfr ff6 hf e6 (fun b o q => k6 b o (PySem.W.of_hideAll _ q)) hB6 d6 rfl ?_ fun h7 hh7 up7 => ?_
    · exact ⟨by rw [Obj.cls_mapFields, Obj.cls_mapFields, Obj.cls_mapFields], by rw [HandSPX.dict_mapFields, HandSPX.dict_mapFields, HandSPX.dict_mapFields]⟩
    obtain ⟨st7, na7, ff7, oe7, vs7, T, oT, ts, t1, t2, t3, t4, t5, t6, t7, t8, t9⟩ := hh7
    have nF7 := noFr ff7 t1 t3
    have nFT := noFr ff7 t7 t8
    have subF : ∀ b, b ∉ frs (X.env :: X.outer) → b ∉ X.fs := fun b hb hm => by
      obtain ⟨e, he, q⟩ := List.mem_filterMap.mp hm
      exact hb (List.mem_filterMap.mpr ⟨e, List.mem_cons_of_mem _ he, q⟩)
    have nT : s1.heap.get? T = none := by
      cases q : s1.heap.get? T with
      | none => rfl
      | some o =>
        have z : (PySem.W.hideAll s1.heap (frs X.stack)).get? T = some o := PySem.W.hideAll_get _ q (by rw [hs]; exact nFT)
        rw [t5] at z; cases z
    have I7 : L2.Inv (X.suite a ((a, oe4) :: (X.pn ++ pins))) [] (σ'.set i (some (.ref a))) H' { s1 with heap := h7 } := I1.landed (fun b o q hb => PySem.W.hideAll_get _ q hb) st7 ((Heap.UpToSlots.of_keeps k6).trans up7) rfl I1.bare
    have we := Inv.away I1 hex hm.new
    have wT := Inv.away I1 hex nT
    have I7' := Inv.pin2 (q := (T, oT)) (Inv.pin2 (q := (e, oe7)) I7 t1 t3 we.2.1 we.2.2.1 (subF _ nF7)) t7 t8 wT.2.1 wT.2.2.1 (subF _ nFT)
    refine gone_ok (X := X.suite a ((a, oe4) :: (X.pn ++ pins))) I7' hN hi hln fun s8 J8 => ?_
    have q1 : s8.heap.get? e = some oe7 := (J8.pin (e, oe7) (List.mem_append_right _ (List.mem_cons_of_mem _ List.mem_cons_self))).1
    have q2 : s8.heap.get? T = some oT := (J8.pin (T, oT) (List.mem_append_right _ List.mem_cons_self)).1
    unfold PySem.passOn
    refine wpAny_bind (wpAny_field q1 t3 t4 ?_)
    rw [if_neg (by simp), hf]
    obtain ⟨B8, b1, b2⟩ := restrict s8.heap fun b => decide (b ≠ e) && decide (b ≠ T) && decide (b ∉ frs X.stack)
    obtain ⟨G8, g1, g2⟩ := restrict s8.heap fun b => decide (b ≠ e) && decide (b ≠ T)
    have Bs : ∀ b o, B8.get? b = some o → s8.heap.get? b = some o := fun b o q => by
      cases z : (decide (b ≠ e) && decide (b ≠ T) && decide (b ∉ frs X.stack)) with
      | true => rw [b1 b z] at q; exact q
      | false => rw [b2 b z] at q; cases q
    have Gs : ∀ b o, G8.get? b = some o → (b ≠ e ∧ b ≠ T) ∧ s8.heap.get? b = some o := fun b o q => by
      cases z : (decide (b ≠ e) && decide (b ≠ T)) with
      | true => rw [g1 b z] at q; exact ⟨by simpa using z, q⟩
      | false => rw [g2 b z] at q; cases q
    have st8 : s8.heap.FunFrames X.base X.stack := J8.stack
    have held8 : HandSPX.HeldZ B8 (X.env :: X.outer) e (Zc (.ref C2) none) X.env.locals s8.heap := by
      refine ⟨Bs, b2 e (by simp), ?_, oe7, vs7, T, oT, ts, q1, t2, t3, t4, b2 T (by simp), t6, q2, t8, t9⟩
      rw [← hs]
      exact funFrames_none st8 fun b hb => b2 b (by simp [hb])
    have I1X : L2.Inv X pins (σ'.set i (some (.ref a))) H' s1 := I1.unsuite ok
    have J8X : L2.Inv X pins ((σ'.set i (some (.ref a))).set i none) H' s8 := J8.unsuite ok
    have weX := Inv.away I1X hex hm.new
    have wTX := Inv.away I1X hex nT
    have I9 : L2.Inv X pins ((σ'.set i (some (.ref a))).set i none) H' { s8 with heap := G8 } := by
      refine Inv.hide (p := fun b => b = e ∨ b = T) J8X (fun b hb => g1 b ?_) (fun b hb => g2 b ?_) (fun b hb => ?_) (fun b hb => ?_) ?_ (fun x c z hb => ?_) (fun q hq hb => ?_)
      · simp only [not_or] at hb
        simp [hb.1, hb.2]
      · rcases hb with z | z <;> simp [z]
      · rcases hb with z | z <;> rw [z]
        · exact weX.1
        · exact wTX.1
      · rcases hb with z | z <;> rw [z]
        · exact weX.2.1
        · exact wTX.2.1
      · rintro (z | z)
        · exact weX.2.2.1 z.symm
        · exact wTX.2.2.1 z.symm
      · rcases hb with y | y
        · exact weX.2.2.2.1 x c z y
        · exact wTX.2.2.2.1 x c z y
      · rcases hb with y | y
        · exact weX.2.2.2.2 q hq y
        · exact wTX.2.2.2.2 q hq y
    refine wpAny_bind (HandSPX.setFlight_onZ held8 fun h9 hh9 up9 => ?_)
    refine wpAny_throw (hpa (some (.ref a)) _ _ (tk _ _ ⟨e, B8, _, pins, _, H', .ref C2, none, rfl, I9, fun b o q hb => ?_, fun b o q nf => ?_, .inr (.inr (by rw [hs]; exact hh9)), we.2.1, rfl, J8.bare, hE⟩))
    · obtain ⟨z1, z2⟩ := Gs b o q
      rw [b1 b (by simp [z1.1, z1.2, hb])]
      exact z2
    · obtain ⟨z1, z2⟩ := Gs b o q
      exact up9 b o z2 nf
  · cases f with
    | next =>
      obtain ⟨σ', H', J', q⟩ := hsp
      exact wpAny_execs_nil ⟨σ', H', J'.ofTry ok, q⟩
    | brk =>
      obtain ⟨σ', H', J', q⟩ := hsp
      exact ⟨σ', H', J'.ofTry ok, q⟩
    | cont =>
      obtain ⟨σ', H', J', q⟩ := hsp
      exact ⟨σ', H', J'.ofTry ok, q⟩
    | ret u =>
      obtain ⟨v, σ', H', J', r, q⟩ := hsp
      exact ⟨v, σ', H', J'.ofTry ok, r, q⟩
end
end Gd

namespace Gd
open PySem PySem.Spec PyProof.Rows L2
/-! ### texts: split, parts, signs, int(text) -/
abbrev rSplit : V → List V → Hp → VK → Prop := fun x xs H Q => ∃ a b, x = .str a ∧ xs = [.str b] ∧ (b.length == 0) = false ∧ a.length + 2 ≤ sizeLine ∧ rNewStrs (Txt.split a b) H Q
theorem kSplit {X : Cx} {o e : Expr} {to te : TE} {apos pos : Pos} (ho : PE X o to) (he : PE X e te) (hs : starEach [e] X.env = [(false, eval e X.env)] := by rfl) (hbase : attributeBase o "split" X.env (eval o X.env) = eval o X.env := by rfl) (hline : (apos.endLine == pos.line) = true := by rfl) :
    PE X (.Call (.Attribute o "split" apos) [e] [] pos) (tM1 rSplit to te) := pe_split ho he hs hbase hline
abbrev tlD (z : Str) : List D := (TL.tl z).map fun c => D.str ⟨#[c]⟩
section
variable {xc : Xc} {d : Dl} {m : M} {Q : D → M → Prop} {to te : TE} {K : PySem.W.Frag}
theorem ge_split (h : ge xc to d m fun x m1 => ∃ a, x = .str a ∧ ge xc te d m1 fun y m2 => ∃ b, y = .str b ∧ (b.length == 0) = false ∧ a.length ≤ 100000 ∧ Q (.lst ((Txt.split a b).map D.str)) m2) : ge xc (tM1 rSplit to te) d m Q := fun sg H s e Q' k => by
  refine h sg H s e _ fun v H1 x m1 s1 r1 t1 ⟨a, hx, h1⟩ => ?_
  subst hx
  rw [r1.str_inv]
  refine ⟨⟨a, rfl⟩, h1 sg H1 t1 (e.step s1) _ fun u H2 y m2 s2 r2 t2 ⟨b, hy, hb, hl, q⟩ => ?_⟩
  subst hy
  rw [r2.str_inv]
  exact ⟨a, b, rfl, rfl, hb, Nat.le_trans (Nat.add_le_add_right hl 2) (by decide), fun p np => k _ _ (.lst _) m2 ((s1.trans s2).trans (.fresh np)) (.lst (t2.off_new np) upd_same (Reps.strs _)) (t2.fresh np) q⟩
theorem gsl_S {z : Str} {lo hi : Option Int} (hz : z.length ≤ 100000) (q : Q (.str (cutS z lo hi)) m) : gsl rSlS (.str z) lo hi m Q := fun H vx s r1 Q' k => by
  rw [r1.str_inv]
  exact ⟨z, rfl, Nat.le_trans hz (by decide), k _ H (.str _) m .refl (.str _) s q⟩
theorem g2_ixStr {z : Str} {i : Int} {c : Nat} (hz : z.length ≤ 100000) (h : atI (TL.tl z) i = some c) (q : Q (.str ⟨#[c]⟩) m) : g2 (rIx K) (.str z) (.int i) m Q := fun H vx vy s r1 r2 Q' k => by
  rw [r1.str_inv, r2.int_inv]
  exact .inr (.inr ⟨z, i, c, rfl, rfl, Nat.le_trans hz (by decide), h, k _ H (.str _) m .refl (.str _) s q⟩)
abbrev rInS : R2 := fun x y H Q => ∃ (c : Nat) (z : Str), x = .str ⟨#[c]⟩ ∧ y = .str z ∧ Q (.bl (decide (c ∈ z.cps.toList))) H
abbrev rNinS : R2 := fun x y H Q => ∃ (c : Nat) (z : Str), x = .str ⟨#[c]⟩ ∧ y = .str z ∧ Q (.bl (!decide (c ∈ z.cps.toList))) H
theorem g2_inS {c : Nat} {z : Str} (q : Q (.bl (decide (c ∈ TL.tl z))) m) : g2 rInS (.str ⟨#[c]⟩) (.str z) m Q := fun H vx vy s r1 r2 Q' k => by
  rw [r1.str_inv, r2.str_inv]
  exact ⟨c, z, rfl, rfl, k _ H (.bl _) m .refl (.bl _) s q⟩
theorem g2_ninS {c : Nat} {z : Str} (q : Q (.bl (!decide (c ∈ TL.tl z))) m) : g2 rNinS (.str ⟨#[c]⟩) (.str z) m Q := fun H vx vy s r1 r2 Q' k => by
  rw [r1.str_inv, r2.str_inv]
  exact ⟨c, z, rfl, rfl, k _ H (.bl _) m .refl (.bl _) s q⟩
theorem gi_str {R : List D → M → Prop} (h : ge xc te d m fun x m1 => ∃ z, x = .str z ∧ R (tlD z) m1) : gi xc (iStr te) d m R := fun sg H s e R' k =>
  h sg H s e _ fun v H1 x m1 s1 r1 t1 ⟨z, hx, q⟩ => by
    subst hx
    rw [r1.str_inv]
    refine ⟨z, rfl, k _ H1 (tlD z) m1 s1 t1 (fun i m' H' s2 t2 => ?_) q⟩
    have hl : (tlD z).length = z.cps.size := by rw [List.length_map]; exact Array.length_toList
    refine ⟨fun hi => ⟨by show i < z.cps.size; rw [← hl]; exact hi, fun u H2 hy => ?_⟩, fun hi => by show z.cps.size ≤ i; rw [← hl, hi]; exact Nat.le_refl _⟩
    obtain ⟨e2, c, hc, ev⟩ := hy
    subst e2 ev
    refine ⟨.str ⟨#[c]⟩, ?_, .refl, t2, .str _⟩
    rw [List.getElem?_map, show (TL.tl z)[i]? = some c from by unfold TL.tl; rw [Array.getElem?_toList]; exact hc]
    rfl
abbrev rIntT : List V → Hp → VK → Prop := fun xs H Q => ∃ a n, xs = [.str a] ∧ PySem.intText? a = some n ∧ a.length ≤ 640 ∧ Q (.int n) H
theorem kIntT {X : Cx} : CallR X (.type "int") rIntT := call_int_str
theorem gc_intT {a : Str} {n : Int} (h : PySem.intText? a = some n) (hl : a.length ≤ 640) (q : Q (.int n) m) : gc rIntT [.str a] m Q := fun H vs s r Q' k => by
  cases r with | cons r1 r2 =>
  cases r2
  rw [r1.str_inv]
  exact ⟨a, n, rfl, h, hl, k _ H (.int _) m .refl (.int _) s q⟩
end
/-! text * number -/
/-- a text of another one's signs -/
def Of (z z' : Str) (n : Nat) : Prop := (∀ c ∈ TL.tl z', c ∈ TL.tl z) ∧ z'.length ≤ n
abbrev rMulT : R2 := fun x y H Q => ∃ (z : Str) (n : Int), x = .str z ∧ y = .int n ∧ 1 < n ∧ n ≤ 100 ∧ z.length ≤ 10000 ∧ ∀ z', Of z z' (z.length * n.toNat) → Q (.str z') H
theorem rep_signs (z : Array Nat) : ∀ (n : Nat) (acc : Array Nat), ((List.replicate n z).foldl (· ++ ·) acc).size = acc.size + n * z.size ∧ ∀ c ∈ ((List.replicate n z).foldl (· ++ ·) acc).toList, c ∈ acc.toList ∨ c ∈ z.toList
  | 0, acc => ⟨by simp, fun c h => .inl h⟩
  | n + 1, acc => by
    obtain ⟨h1, h2⟩ := rep_signs z n (acc ++ z)
    refine ⟨?_, fun c h => ?_⟩
    · show ((List.replicate n z).foldl (· ++ ·) (acc ++ z)).size = _
      rw [h1, Array.size_append, Nat.add_mul, Nat.one_mul]
      omega
    · rcases h2 c h with z1 | z1
      · rw [Array.toList_append] at z1
        exact (List.mem_append.mp z1)
      · exact .inr z1
theorem op_mulT {X : Cx} : OpR X (binaryOp .Mult) rMulT := by
  intro pins s σ H x y v u Q I rx ry h
  obtain ⟨z, n, rfl, rfl, h1, h2, h3, q⟩ := h
  obtain ⟨t, rfl⟩ := rx
  obtain ⟨t', rfl⟩ := ry
  have e1 : decide (n < -(2 ^ 63 : Int)) = false := decide_eq_false (by omega)
  have e2 : decide (n ≥ 2 ^ 63) = false := decide_eq_false (by omega)
  have hlt : z.length * n.toNat ≤ 1000000 := Nat.le_trans (Nat.mul_le_mul h3 (show n.toNat ≤ 100 by omega)) (by decide)
  refine PySem.P.mul_str (by rw [e1, e2]; rfl) (fun _ _ => ?_) (fun _ _ => ?_) ?_
  · have : (2 ^ 63 - 1) / n ≥ (2 ^ 63 - 1) / 100 := by
      refine Int.le_ediv_of_mul_le (by omega) ?_
      have : ((2 ^ 63 - 1 : Int) / 100) * n ≤ ((2 ^ 63 - 1 : Int) / 100) * 100 := Int.mul_le_mul_of_nonneg_left h2 (by decide)
      exact Int.le_trans this (by decide)
    have h4 : (z.length : Int) ≤ 10000 := by omega
    have h5 : (10000 : Int) ≤ (2 ^ 63 - 1) / 100 := by decide
    omega
  · unfold Builtin.Str.tooLong
    exact decide_eq_false (by rw [sizeLine_eq]; omega)
  rw [if_neg (by omega)]
  by_cases hz : (n == 1 || z.length == 0) = true
  · rw [if_pos hz]
    refine ⟨.str z, H, I, ⟨t, rfl⟩, q z ⟨fun c h => h, ?_⟩⟩
    exact Nat.le_mul_of_pos_right _ (by omega)
  · rw [if_neg hz]
    obtain ⟨r1, r2⟩ := rep_signs z.cps n.toNat #[]
    have hl : (⟨(List.replicate n.toNat z.cps).foldl (· ++ ·) #[]⟩ : Str).length = z.length * n.toNat := by
      show ((List.replicate n.toNat z.cps).foldl (· ++ ·) #[]).size = _
      rw [r1, Nat.mul_comm]
      show 0 + z.length * n.toNat = _
      omega
    refine ⟨by rw [hl, sizeLine_eq]; omega, .str _, H, I.tok _, ⟨_, rfl⟩, q _ ⟨fun c h => ?_, Nat.le_of_eq hl⟩⟩
    rcases r2 c h with z1 | z1
    · cases z1
    · exact z1
/-! text[::-1] -/
def tRevS (te : TE) : TE := fun σ H Q => te σ H fun x H1 => ∃ z, x = .str z ∧ z.length ≤ 10000 ∧ ∀ z', Of z z' z.length → Q (.str z') H1
theorem picked_len (n : Nat) : (Builtin.Str.strSliceIndices none none (-1) n).length = n := by
  unfold Builtin.Str.strSliceIndices sliceRange
  simp only [show ¬ ((-1 : Int) > 0) by decide, if_false, List.length_map, List.length_range]
  split
  · rw [show ((n : Int) - 1 - -1 - -1 - 1) = n by omega, show (- -1 : Int) = 1 from rfl, Int.ediv_one]
    omega
  · omega
theorem pe_revS {X : Cx} {e : Expr} {te : TE} {k : Nat} {p1 p2 p3 pos : Pos} (he : PE X e te) : PE X (.Subscript e (.Slice none none (some (.UnaryOp .USub (.Constant (.int 1) k p1) p2)) p3) pos) (tRevS te) := by
  refine ⟨fun pins s σ H Q I h => ?_⟩
  refine Subscript_ (thn (he.run pins s σ H _ I h) fun v s1 hh => ?_)
  obtain ⟨x, H1, I1, r1, z, ex, hz, q⟩ := hh
  subst ex
  obtain ⟨t, rfl⟩ := r1
  have hst : PO X (some (.UnaryOp .USub (.Constant (.int 1) k p1) p2)) (tPart (tUn (rU fun i => .int (-i)) (tC (.int 1)))) := po_some (pe_un un_neg pe_int)
  refine wpAny_Slice (thn (po_none.run pins s1 σ H1 (fun o H2 => o = none ∧ H2 = H1) I1 ⟨rfl, rfl⟩) fun vl s2 h2 => ?_)
  obtain ⟨l, H2, I2, pl, el, e2⟩ := h2
  subst el e2
  refine thn (po_none.run pins s2 σ H2 (fun o H3 => o = none ∧ H3 = H2) I2 ⟨rfl, rfl⟩) fun vu s3 h3 => ?_
  obtain ⟨u, H3, I3, pu, eu, e3⟩ := h3
  subst eu e3
  refine thn (hst.run pins s3 σ H3 (fun o H4 => o = some (-1) ∧ H4 = H3) I3 ⟨1, rfl, -1, rfl, rfl, rfl⟩) fun vs s4 h4 => ?_
  obtain ⟨o, H4, I4, ps, eo, e4⟩ := h4
  subst eo e4
  obtain ⟨ll, rfl, el⟩ := IsPart.raw pl
  obtain ⟨lu, rfl, eu⟩ := IsPart.raw pu
  obtain ⟨ls, rfl, es⟩ := IsPart.raw ps
  have I5 : L2.Inv X pins σ H4 { s4 with heap := s4.heap.push { cls := .type "slice", data := .fields #[partValue ll, partValue lu, partValue ls] } } := I4.kept (t' := s4.toks) fun b ob q => Heap.get?_push_of_some _ q
  show wpAny (model X.prog X.w) X.A (subscriptTail e (.Slice none none (some (.UnaryOp .USub (.Constant (.int 1) k p1) p2)) p3) (.str z t) (.ref s4.heap.objs.size)) (EP X pins σ Q) X.xe { s4 with heap := s4.heap.push { cls := .type "slice", data := .fields #[partValue ll, partValue lu, partValue ls] } }
  refine tail_any (ops := [.str z t, .ref s4.heap.objs.size]) (typeIs_str _ z t) (PySem.F.slot_str_getitem.lookup) ?_ (by with_unfolding_all rfl)
  refine wpAny_getItem_str_slice (l := ll) (u := lu) (st := ls) (Heap.IsSliceOf.new _ _ _ _) (by rw [es]; rfl) ?_
  unfold sliceMade slicePicked
  rw [es, el, eu]
  show Made.post (if ((-1 : Int) == 1 && _) = true then _ else _) _ _
  rw [if_neg (by simp)]
  have hl : (((Builtin.Str.strSliceIndices none none (-1) z.length).filterMap (z.cps[·]?)).toArray).size ≤ z.length := by
    rw [List.size_toArray]
    exact Nat.le_trans (List.length_filterMap_le _ _) (Nat.le_of_eq (picked_len _))
  refine ⟨Nat.le_trans hl (Nat.le_trans hz (by decide)), .str _, H4, I5.tok _, ⟨_, rfl⟩, q _ ⟨fun c hc => ?_, hl⟩⟩
  obtain ⟨i, _, h2⟩ := List.mem_filterMap.mp (show c ∈ (Builtin.Str.strSliceIndices none none (-1) z.length).filterMap (z.cps[·]?) from hc)
  exact List.mem_of_getElem? (by rw [Array.getElem?_toList]; exact h2)
section
variable {xc : Xc} {d : Dl} {m : M} {Q : D → M → Prop} {te : TE}
theorem g2_mulT {z : Str} {n : Int} (h1 : 1 < n) (h2 : n ≤ 100) (h3 : z.length ≤ 10000) (q : ∀ z', Of z z' (z.length * n.toNat) → Q (.str z') m) : g2 rMulT (.str z) (.int n) m Q := fun H vx vy s r1 r2 Q' k => by
  rw [r1.str_inv, r2.int_inv]
  exact ⟨z, n, rfl, rfl, h1, h2, h3, fun z' hz => k _ H (.str _) m .refl (.str _) s (q z' hz)⟩
theorem ge_revS (h : ge xc te d m fun x m1 => ∃ z, x = .str z ∧ z.length ≤ 10000 ∧ ∀ z', Of z z' z.length → Q (.str z') m1) : ge xc (tRevS te) d m Q := fun sg H s e Q' k =>
  h sg H s e _ fun v H1 x m1 s1 r1 t1 ⟨z, hx, hz, q⟩ => by
    subst hx
    rw [r1.str_inv]
    exact ⟨z, rfl, hz, fun z' h' => k _ H1 (.str _) m1 s1 (.str _) t1 (q z' h')⟩
end
/-! ### raise out of a def: the context of the exception is none -/
theorem ps_raiseON {X : Cx} {K : PySem.W.Frag} {mg : Str → Option Value} {C : Addr} {E : XK} {x m : Str} {j : Nat} {p p2 pos pos2 : Pos} (t : ExcT K mg x C) (hc : X.calm = true) (hK : X.K = K) (hm : X.mg = mg) (tk : L2N.Takes X (fun cls d _ H => E cls d H)) (hg : Gl X x) (hdb : (x == ("__debug__" : Str)) = false := by decide) :
    PS X (.Raise (some (.Call (.Name x p) [.Constant (.str m) j p2] [] pos)) none pos2) (tRaise C E) := by
  subst hK hm
  exact L2N.ps_raise hc tk (L2N.pmk_own PySem.F.excBase_IndexError t.ex t.g t.kp (raises_own t.sb t.ty) hg hdb)
section
variable {P : Program} {w : World} {K : PySem.W.Frag} {mg : Str → Option Value} {base : Heap}
theorem fn_okXN {x qual : Str} {st : Stmt} {f : Addr} {fd : FuncData} {N ps : List Str} {k : Nat} {T : TD} {n : Nat} (hn : N.length = n) (F : Fun K x qual st f fd) (S : FnScope N ps (defScope st)) (len : ∀ ds m Q X0, T ds m Q X0 → ds.length = ps.length)
    (hbody : ∀ (cdv : Value) (A : Around) (outer : List Env) (s : Shared) (H : Hp) (E : XK), Room k (A.deeper (envOfC qual (defScope st) s.heap.objs.size f cdv)) →
      ∃ t, PSs (cxOf (L2N.CX P w) P w K mg base N qual (defScope st) f cdv A outer s H E) (defBody st) t ∧ ∀ ds m Q X0, T ds m Q X0 → gs ⟨X0, E⟩ t { nx := fun _ m' => Q .non m', rt := Q } (startD n ds) m) : FnOk P w K mg base (L2N.CX P w) (k + 1) f fd ps (spOf T) := by
  subst hn
  obtain ⟨oc, od, kV, doc, pm, an, cdv, ct, osl, rfl, lk, hcd⟩ := F.ex
  refine fn_of lk hcd S (fun vs H Q E ⟨ds, m, Q0, X0, r, t, h, _⟩ => by rw [← r.length]; exact len _ _ _ _ h) fun A outer s H vs Q E hr hsp => ?_
  obtain ⟨ds, m, Q0, X0, r, t, h, hq, hx⟩ := hsp
  obtain ⟨tm, pt, hg⟩ := hbody _ A outer s H E hr
  exact ⟨tm, pt, hg ds m Q0 X0 h (L2.start N vs) H t (esat_start r hx) _ ⟨fun sg' H' d' m' s1 t1 e1 q => hq _ H' _ m' s1 .non t1 q, fun v H' z m' s1 r1 t1 q => hq v H' z m' s1 r1 t1 q, fun _ _ _ _ _ _ _ q => q.elim, fun _ _ _ _ _ _ _ q => q.elim⟩⟩
end
/-- try: f(..) except c as n: raise D('..') from n -/
def tTryF (K : PySem.W.Frag) (c : Value) (C2 : Addr) (E : XK) (sp : Sp) (aa : TA) : TS := fun D σ H => aa σ H fun vs H1 => sp vs H1 (fun _ H2 => D.nx σ H2) fun cls d H2 => wFrom K c C2 E cls d σ H2
theorem ps_tryF {X : Cx} {K : PySem.W.Frag} {mg : Str → Option Value} {c : Value} {C2 : Addr} {E : XK} {i k jt : Nat} {x n y f msg : Str} {e : Expr} {es : List Expr} {t : TA} {fa : Addr} {fd : FuncData} {ps : List Str} {sp : Sp} {np p1 p2 p3 p4 p5 p6 p7 p8 pos pos' : Pos}
    (hK : X.K = K) (hmg : X.mg = mg) (hs : X.stack = X.env :: X.outer) (hf : X.env.frame = some X.env.locals) (hex : X.ex = []) (hN : X.N.Nodup) (hi : X.N[i]? = some n) (hln : X.env.kindOf n = some .local) (hvn : Vis X.env.scope n) (hc : Names X x c) (tk : L2.Takes X (WE' E))
    (hpa : ∀ hd : Option Value, PassesOwnAt (model X.prog X.w) (X.A.mark hd) X.A X.env X.xe)
    (F : FnOk X.prog X.w X.K X.mg X.base (L2N.CX X.prog X.w) k fa fd ps sp) (hr : Room k X.A) (hgf : Gl X f) (hm : X.mg f = some (.ref fa)) (hkp : PySem.W.keepIn X.K (.ref fa) = true) (hb : Binds X.K fd ps []) (ha : ∀ (pn : List (Addr × Obj)) (xe : Value → Shared → Prop), PA (X.tr pn xe) (e :: es) t)
    (tC : ExcT K mg y C2) (hg : Gl X y)
    (he : starEach (e :: es) X.env = (false, eval e X.env) :: starEach es X.env := by rfl) (hpl : (backTo p7 (starEach es X.env)).any (·.1) = false := by rfl)
    (hdb : (y == ("__debug__" : Str)) = false := by decide) (hdn : (n == ("__debug__" : Str)) = false := by decide) (hcd : (n == ("__classdict__" : Str)) = false := by decide) (hdf : (f == ("__debug__" : Str)) = false := by decide) :
    PS X (.Try [.Expr (.Call (.Name f p6) (e :: es) [] p7) p8] [.ExceptHandler (some (.Name x np)) (some n) [.Raise (some (.Call (.Name y p1) [.Constant (.str msg) jt p2] [] p3)) (some (.Name n p4)) p5] pos'] [] [] pos) (tTryF K c C2 E sp t) := by
  subst hK hmg
  have h := ps_tryFrom (X := X) (E := E) (np := np) (p1 := p1) (p2 := p2) (p3 := p3) (p4 := p4) (p5 := p5) (pos := pos) (pos' := pos') (msg := msg) (jt := jt) (tb := fun W => tDrop (tCallS sp (WE W) t)) hs hf hex hN hi hln hvn hc tk hpa
    (fun W pn xe tk _ => pss_one (ps_expr (X := X.tr pn xe) (pos := p8) (pe_callS (X := X.tr pn xe) (p := p6) (pos := p7) F hr hgf hm hkp hb (fun σ => L2N.passAt tk σ) (ha pn xe) hdf he hpl))) tC hg hdb hdn hcd
  exact h
section
variable {xc : Xc} {d : Dl} {m : M} {E : De} {aa : TA} {K : PySem.W.Frag}
theorem gs_tryF {c : Value} {C2 : Addr} {X0 : XD} {Ex : XK} {T : TD} (h : ga ⟨X0, Ex⟩ aa d m fun xs m1 => T xs m1 (fun _ m2 => E.nx d m2) (fun cls fs m2 => PySem.W.exmOne K cls c = some true ∧ PySem.W.subIn K cls (.type "BaseException") = some true ∧ X0 (.ref C2) none m2)) : gs ⟨X0, Ex⟩ (tTryF K c C2 Ex (spOf T) aa) E d m := fun sg H s e E' ok =>
  h sg H s e _ fun vs H1 xs m1 s1 r1 t1 q => by
    refine ⟨xs, m1, _, _, r1, t1, q, fun v H' z m' s2 r2 t2 q2 => ok.nx _ H' _ m' (s1.trans s2) t2 ((e.step s1).step s2) q2, ?_⟩
    intro cls fs m' H' od s2 t2 xf hx
    obtain ⟨h1, h2, h3⟩ := hx
    exact ⟨h1, h2, e.xk _ none m' H' none (s1.trans s2) t2 trivial h3⟩
end
end Gd

namespace Gd
open PySem PySem.Spec PyProof.Rows L2 NumText
/-! ### figures -/
def isDig (c : Nat) : Bool := decide (48 ≤ c) && decide (c ≤ 57)
theorem allDig_iff (l : List Nat) : l.all isDig = true ↔ AllDigits l := by
  unfold AllDigits isDig
  simp
theorem val_snoc (l : List Nat) (c : Nat) : digitsVal (l ++ [c]) = digitsVal l * 10 + (c - 48) := by
  unfold digitsVal
  rw [List.foldl_append]
  rfl
theorem val_acc : ∀ (l : List Nat) (a : Nat), l.foldl (fun acc c => acc * 10 + (c - 48)) a = a * 10 ^ l.length + digitsVal l
  | [], a => by simp [digitsVal]
  | c :: r, a => by
    unfold digitsVal
    rw [List.foldl_cons, List.foldl_cons, Nat.zero_mul, Nat.zero_add, val_acc r (a * 10 + (c - 48)), val_acc r (c - 48), List.length_cons, Nat.pow_succ, Nat.add_mul]
    have : a * 10 * 10 ^ r.length = a * (10 ^ r.length * 10) := by rw [Nat.mul_assoc, Nat.mul_comm 10]
    omega
theorem val_cons (c : Nat) (r : List Nat) : digitsVal (c :: r) = (c - 48) * 10 ^ r.length + digitsVal r := by
  have := val_acc r (c - 48)
  unfold digitsVal at *
  rw [List.foldl_cons]
  simpa using this
theorem val_lt : ∀ {l : List Nat}, AllDigits l → digitsVal l < 10 ^ l.length
  | [], _ => by simp [digitsVal]
  | c :: r, h => by
    have h1 := val_lt h.tail
    have h2 := h.head
    rw [val_cons, List.length_cons, Nat.pow_succ]
    have : (c - 48) * 10 ^ r.length ≤ 9 * 10 ^ r.length := Nat.mul_le_mul_right _ (by omega)
    omega
theorem num_canon : ∀ (n : Nat) {l : List Nat}, l.length = n → AllDigits l → l ≠ [] → (l.head? = some 48 → l = [48]) → TL.numL (digitsVal l) = l := by
  intro n
  induction n with
  | zero => intro l hl _ hne _; exact absurd (List.length_eq_zero_iff.mp hl) hne
  | succ n ih =>
    intro l hl hd hne h0
    obtain ⟨l', c, rfl⟩ : ∃ l' c, l = l' ++ [c] := ⟨l.dropLast, l.getLast hne, (List.dropLast_concat_getLast hne).symm⟩
    have hc := hd c (List.mem_append_right _ (List.mem_singleton.mpr rfl))
    have hd' : AllDigits l' := fun x hx => hd x (List.mem_append_left _ hx)
    cases l' with
    | nil =>
      show TL.numL (digitsVal [c]) = [c]
      rw [show digitsVal [c] = c - 48 from by simp [digitsVal], TL.numL_lt (by omega)]
      congr 1
      omega
    | cons b r =>
      have hb : b ≠ 48 := fun z => by
        have := h0 (by rw [z]; rfl)
        have := congrArg List.length this
        simp at this
      have e := ih (l := b :: r) (by rw [List.length_append] at hl; simpa using hl) hd' (by simp) (fun z => absurd (by simpa using z) hb)
      have hv : 1 ≤ digitsVal (b :: r) := by
        cases z : digitsVal (b :: r) with
        | zero =>
          rw [z, TL.numL_lt (by decide)] at e
          have := List.cons.inj e
          exact absurd this.1.symm hb
        | succ k => omega
      rw [val_snoc, TL.numL_step (by omega), show (digitsVal (b :: r) * 10 + (c - 48)) / 10 = digitsVal (b :: r) by omega, show (digitsVal (b :: r) * 10 + (c - 48)) % 10 = c - 48 by omega, e, show 48 + (c - 48) = c by omega]
/-! ### a number's text -/
def neg? (l : List Nat) : Bool := decide (l.take 1 = [45])
def figs (l : List Nat) : List Nat := if neg? l = true then l.drop 1 else l
def bill : List Nat := [49, 48, 48, 48, 48, 48, 48, 48, 48, 48]
/-- the number that is read -/
def NI (l : List Nat) : Option Int :=
  if figs l = [] ∨ 10 < (figs l).length ∨ (figs l).all isDig = false then none
  else if (figs l).take 1 = [48] ∧ l ≠ [48] then none
  else some (if neg? l = true then -((digitsVal (figs l) : Nat) : Int) else ((digitsVal (figs l) : Nat) : Int))
/-- the law's word -/
def EG (l : List Nat) (st : Bool) : Bool :=
  if figs l = [] ∨ 10 < (figs l).length ∨ (figs l).all isDig = false then false
  else if (figs l).take 1 = [48] then decide (l = [48]) && !st
  else decide ((figs l).length < 10) || decide (figs l = bill)
theorem take1 {l : List Nat} {c : Nat} (h : l.take 1 = [c]) : l.head? = some c := by
  cases l with
  | nil => cases h
  | cons a r => simp at h; rw [h]; rfl
theorem take1_of {l : List Nat} {c : Nat} (h : l.head? = some c) : l.take 1 = [c] := by
  cases l with
  | nil => cases h
  | cons a r => simp at h; rw [h]; rfl
theorem neg_cons {l : List Nat} (h : neg? l = true) : l = 45 :: figs l := by
  unfold figs
  rw [if_pos h]
  have h1 := take1 (of_decide_eq_true h)
  cases l with
  | nil => cases h1
  | cons a r => simp at h1; rw [h1]; rfl
theorem figs_pos {l : List Nat} (h : neg? l = false) : figs l = l := by
  unfold figs
  rw [if_neg (by rw [h]; exact Bool.false_ne_true)]
theorem tl_neg {n : Nat} (h : 0 < n) : TL.tl (Str.ofString (toString (-((n : Nat) : Int)))) = 45 :: TL.numL n := by
  obtain ⟨k, rfl⟩ : ∃ k, n = k + 1 := ⟨n - 1, by omega⟩
  have e : toString (-(((k + 1 : Nat)) : Int)) = "-" ++ toString (((k + 1 : Nat)) : Int) := rfl
  have e2 : TL.tl (Str.ofString (toString (((k + 1 : Nat)) : Int))) = TL.numL (k + 1) := TL.tl_num (k + 1)
  rw [TL.tl_ofString] at e2
  rw [e, TL.tl_ofString, String.toList_append, List.map_append, e2]
  rfl
/-- what is told good is read, within bounds, and written so -/
theorem EG_true {l : List Nat} {st : Bool} (h : EG l st = true) : ∃ v : Int, NI l = some v ∧ (-1000000000 ≤ v ∧ v ≤ 1000000000) ∧ (st = true → v ≠ 0) ∧ TL.tl (edgeT (some v)) = l := by
  unfold EG at h
  by_cases h1 : figs l = [] ∨ 10 < (figs l).length ∨ (figs l).all isDig = false
  · rw [if_pos h1] at h; cases h
  rw [if_neg h1] at h
  have hne : figs l ≠ [] := fun z => h1 (.inl z)
  have hlen : (figs l).length ≤ 10 := by
    by_cases z : 10 < (figs l).length
    · exact absurd (.inr (.inl z)) h1
    · omega
  have hd : AllDigits (figs l) := (allDig_iff _).mp (by
    cases z : (figs l).all isDig with
    | true => rfl
    | false => exact absurd (.inr (.inr z)) h1)
  have hlt := val_lt hd
  by_cases h2 : (figs l).take 1 = [48]
  · rw [if_pos h2, Bool.and_eq_true, decide_eq_true_eq] at h
    obtain ⟨rfl, hst⟩ := h
    refine ⟨0, by decide +kernel, by decide, (fun z => by rw [z] at hst; cases hst), by decide +kernel⟩
  · rw [if_neg h2] at h
    have hcan := num_canon _ rfl hd hne (fun z => absurd (take1_of z) h2)
    have hv0 : digitsVal (figs l) ≠ 0 := fun z => by
      rw [z, TL.numL_lt (by decide)] at hcan
      exact h2 (by rw [← hcan]; rfl)
    have hb : digitsVal (figs l) ≤ 1000000000 := by
      rw [Bool.or_eq_true, decide_eq_true_eq, decide_eq_true_eq] at h
      rcases h with h | h
      · have : 10 ^ (figs l).length ≤ 10 ^ 9 := Nat.pow_le_pow_right (by decide) (by omega)
        omega
      · rw [h]; decide
    have hNI : NI l = some (if neg? l = true then -((digitsVal (figs l) : Nat) : Int) else ((digitsVal (figs l) : Nat) : Int)) := by
      unfold NI
      rw [if_neg h1, if_neg (fun z => h2 z.1)]
    cases hn : neg? l with
    | true =>
      rw [hn] at hNI
      refine ⟨_, hNI, by simp only [if_true]; omega, fun _ => by simp only [if_true]; omega, ?_⟩
      show TL.tl (Str.ofString (toString (-((digitsVal (figs l) : Nat) : Int)))) = l
      rw [tl_neg (by omega), hcan]
      exact (neg_cons hn).symm
    | false =>
      rw [hn] at hNI
      refine ⟨_, hNI, by simp only [Bool.false_eq_true, if_false]; omega, fun _ => by simp only [Bool.false_eq_true, if_false]; omega, ?_⟩
      show TL.tl (Str.ofString (toString ((digitsVal (figs l) : Nat) : Int))) = l
      rw [TL.tl_num, hcan]
      exact figs_pos hn
theorem EG_false {l : List Nat} {st : Bool} (h : EG l st = false) : NI l = none ∨ ∃ v : Int, NI l = some v ∧ (v < -1000000000 ∨ 1000000000 < v ∨ (st = true ∧ v = 0)) := by
  unfold EG at h
  by_cases h1 : figs l = [] ∨ 10 < (figs l).length ∨ (figs l).all isDig = false
  · exact .inl (by unfold NI; rw [if_pos h1])
  rw [if_neg h1] at h
  have hne : figs l ≠ [] := fun z => h1 (.inl z)
  have hd : AllDigits (figs l) := (allDig_iff _).mp (by
    cases z : (figs l).all isDig with
    | true => rfl
    | false => exact absurd (.inr (.inr z)) h1)
  by_cases h2 : (figs l).take 1 = [48]
  · rw [if_pos h2] at h
    by_cases h3 : l = [48]
    · subst h3
      refine .inr ⟨0, by decide +kernel, .inr (.inr ⟨?_, rfl⟩)⟩
      cases st with
      | true => rfl
      | false => cases h
    · exact .inl (by unfold NI; rw [if_neg h1, if_pos ⟨h2, h3⟩])
  · rw [if_neg h2, Bool.or_eq_false_iff, decide_eq_false_iff_not, decide_eq_false_iff_not] at h
    have hcan := num_canon _ rfl hd hne (fun z => absurd (take1_of z) h2)
    have hbig : 1000000000 < digitsVal (figs l) := by
      obtain ⟨c, r, e⟩ := List.exists_cons_of_ne_nil hne
      have hc : 48 ≤ c ∧ c ≤ 57 := hd c (by rw [e]; exact List.mem_cons_self)
      have hc8 : c ≠ 48 := fun z => h2 (by rw [e, z]; rfl)
      have hr : 9 ≤ r.length := by have := h.1; rw [e, List.length_cons] at this; omega
      have hge : 1000000000 ≤ digitsVal (figs l) := by
        rw [e, val_cons]
        have a1 : 1 * 10 ^ 9 ≤ (c - 48) * 10 ^ r.length := Nat.mul_le_mul (by omega) (Nat.pow_le_pow_right (by decide) hr)
        omega
      rcases Nat.lt_or_ge 1000000000 (digitsVal (figs l)) with z | z
      · exact z
      · have e9 : digitsVal (figs l) = 1000000000 := by omega
        rw [e9] at hcan
        exact absurd (hcan.symm.trans (by decide +kernel)) h.2
    refine .inr ⟨_, by unfold NI; rw [if_neg h1, if_neg (fun z => h2 z.1)], ?_⟩
    split
    · exact .inl (by omega)
    · exact .inr (.inl (by omega))
/-- a number is read back -/
theorem EG_num {v : Int} (h : -1000000000 ≤ v ∧ v ≤ 1000000000) (st : Bool) (hs : st = true → v ≠ 0) : EG (TL.tl (edgeT (some v))) st = true := by
  have big : ∀ n : Nat, n ≤ 1000000000 → n ≠ 0 → ¬ ((TL.numL n) = [] ∨ 10 < (TL.numL n).length ∨ (TL.numL n).all isDig = false) ∧ (TL.numL n).take 1 ≠ [48] ∧ (decide ((TL.numL n).length < 10) || decide (TL.numL n = bill)) = true := by
    intro n hn h0
    have hd := TL.numL_digits n
    refine ⟨?_, fun z => ?_, ?_⟩
    · rintro (z | z | z)
      · exact TL.numL_ne n z
      · have := TL.numL_len (n := n) (k := 10) (by decide) (by omega)
        omega
      · rw [(allDig_iff _).mpr hd] at z; cases z
    · have z1 := TL.numL_val n
      obtain ⟨c, r, e⟩ := List.exists_cons_of_ne_nil (TL.numL_ne n)
      rw [e] at z z1 hd
      simp at z
      subst z
      rw [val_cons, Nat.sub_self, Nat.zero_mul, Nat.zero_add] at z1
      have hr := val_lt hd.tail
      by_cases hr0 : r = []
      · subst hr0
        simp [digitsVal] at z1
        exact h0 z1.symm
      · have hlen : (TL.numL n).length ≤ r.length := TL.numL_len (List.length_pos_iff.mpr hr0) (by rw [← z1]; exact hr)
        rw [e, List.length_cons] at hlen
        omega
    · rw [Bool.or_eq_true, decide_eq_true_eq, decide_eq_true_eq]
      by_cases z : n = 1000000000
      · right; rw [z]; decide +kernel
      · left
        have := TL.numL_len (n := n) (k := 9) (by decide) (by omega)
        omega
  unfold EG
  by_cases h0 : v = 0
  · subst h0
    cases st with
    | true => exact absurd rfl (hs rfl)
    | false => decide +kernel
  by_cases hp : 0 < v
  · obtain ⟨n, rfl⟩ : ∃ n : Nat, v = n := ⟨v.toNat, by omega⟩
    obtain ⟨b1, b2, b3⟩ := big n (by omega) (by omega)
    have et : TL.tl (edgeT (some (n : Int))) = TL.numL n := TL.tl_num n
    rw [et]
    have hf : figs (TL.numL n) = TL.numL n := figs_pos (by
      unfold neg?
      refine decide_eq_false fun z => ?_
      have := TL.numL_digits n 45 (by
        have := take1 z
        cases q : TL.numL n with
        | nil => rw [q] at this; cases this
        | cons a r => rw [q] at this; simp at this; rw [this]; exact List.mem_cons_self)
      omega)
    rw [hf, if_neg b1, if_neg b2, b3]
  · obtain ⟨n, rfl⟩ : ∃ n : Nat, v = -((n : Nat) : Int) := ⟨(-v).toNat, by omega⟩
    obtain ⟨b1, b2, b3⟩ := big n (by omega) (by omega)
    have et : TL.tl (edgeT (some (-((n : Nat) : Int)))) = 45 :: TL.numL n := tl_neg (by omega)
    rw [et]
    have hf : figs (45 :: TL.numL n) = TL.numL n := by
      unfold figs neg?
      rw [if_pos (by rfl)]
      rfl
    rw [hf, if_neg b1, if_neg b2, b3]
end Gd

namespace Gd
open PySem PySem.Spec PyProof.Rows L2 NumText
/-! ### cuts and chains, written and read -/
def EI (l : List Nat) : Option (Option Int) := if l = [] then some none else (NI l).map some
def eg (l : List Nat) : Bool := decide (l = []) || EG l false
def chkC (c : Cut) : Option Cut := if isCut (cutD c) = true then some c else none
def CIp : List Str → Option Cut
  | [a, b] => match EI (TL.tl a), EI (TL.tl b) with
    | some x, some y => chkC (x, y, none)
    | _, _ => none
  | [a, b, c] => if TL.tl c = [] then none else match EI (TL.tl a), EI (TL.tl b), EI (TL.tl c) with
    | some x, some y, some z => chkC (x, y, z)
    | _, _, _ => none
  | _ => none
abbrev sColon : Str := Str.ofString ":"
abbrev sMid : Str := Str.ofString "]["
def CI (s : Str) : Option Cut := CIp (Txt.split s sColon)
def CGp : List Str → Bool
  | [a, b] => eg (TL.tl a) && eg (TL.tl b)
  | [a, b, c] => EG (TL.tl c) true && (eg (TL.tl a) && eg (TL.tl b))
  | _ => false
def CG (s : Str) : Bool := CGp (Txt.split s sColon)
theorem cut_inj {a b : Cut} (h : cutD a = cutD b) : a = b := by
  obtain ⟨a1, a2, a3⟩ := a
  obtain ⟨b1, b2, b3⟩ := b
  have h : D.tup [oi a1, oi a2, oi a3] = D.tup [oi b1, oi b2, oi b3] := h
  injection h with h
  simp only [List.cons.injEq, and_true] at h
  rw [oi_inj h.1, oi_inj h.2.1, oi_inj h.2.2]
theorem isCut_ok {c : Cut} (h : isCut (cutD c) = true) : CutOk c := by
  obtain ⟨c', e, h'⟩ := isCut_inv h
  rw [cut_inj e]; exact h'
theorem chk_some {c : Cut} (h : CutOk c) : chkC c = some c := by
  unfold chkC
  rw [if_pos h.is]
theorem chk_none {c : Cut} (h : ¬ CutOk c) : chkC c = none := by
  unfold chkC
  rw [if_neg fun z => h (isCut_ok z)]
theorem eg_true {l : List Nat} (h : eg l = true) : ∃ o, EI l = some o ∧ OiOk o ∧ TL.tl (edgeT o) = l := by
  unfold eg at h
  rw [Bool.or_eq_true, decide_eq_true_eq] at h
  by_cases z : l = []
  · refine ⟨none, by unfold EI; rw [if_pos z], (fun i e => by cases e), ?_⟩
    rw [z]
    decide +kernel
  · obtain ⟨v, h1, h2, _, h4⟩ := EG_true (h.resolve_left z)
    refine ⟨some v, by unfold EI; rw [if_neg z, h1]; rfl, fun i e => by cases e; exact h2, h4⟩
theorem eg_false {l : List Nat} (h : eg l = false) : EI l = none ∨ ∃ v, EI l = some (some v) ∧ ¬ OiOk (some v) := by
  unfold eg at h
  rw [Bool.or_eq_false_iff, decide_eq_false_iff_not] at h
  unfold EI
  rw [if_neg h.1]
  rcases EG_false h.2 with z | ⟨v, z, y⟩
  · exact .inl (by rw [z]; rfl)
  · refine .inr ⟨v, by rw [z]; rfl, fun k => ?_⟩
    have := k v rfl
    rcases y with y | y | y
    · omega
    · omega
    · cases y.1
theorem join2 (y a b : Str) : Str.join y [a, b] = a ++ y ++ b := rfl
theorem join3 (y a b c : Str) : Str.join y [a, b, c] = a ++ y ++ (b ++ y ++ c) := rfl
theorem CG_true {s : Str} (h : CG s = true) : ∃ c, CI s = some c ∧ CutOk c ∧ writtenM c = s := by
  have hj := StrLaws.join_split s sColon
  unfold CG at h
  unfold CI
  revert h hj
  generalize Txt.split s sColon = ps
  intro h hj
  match ps, h, hj with
  | [a, b], h, hj =>
    have h : (eg (TL.tl a) && eg (TL.tl b)) = true := h
    rw [Bool.and_eq_true] at h
    obtain ⟨x, x1, x2, x3⟩ := eg_true h.1
    obtain ⟨y, y1, y2, y3⟩ := eg_true h.2
    have ok : CutOk (x, y, none) := ⟨x2, y2, (fun i e => by cases e), (fun e => by cases e)⟩
    refine ⟨(x, y, none), ?_, ok, ?_⟩
    · show (match EI (TL.tl a), EI (TL.tl b) with | some x, some y => chkC (x, y, none) | _, _ => none) = _
      rw [x1, y1]
      exact chk_some ok
    · show edgeT x ++ Str.ofString ":" ++ edgeT y = s
      rw [TL.ext_tl x3, TL.ext_tl y3, ← hj]
      rfl
  | [a, b, c], h, hj =>
    have h : (EG (TL.tl c) true && (eg (TL.tl a) && eg (TL.tl b))) = true := h
    rw [Bool.and_eq_true, Bool.and_eq_true] at h
    obtain ⟨x, x1, x2, x3⟩ := eg_true h.2.1
    obtain ⟨y, y1, y2, y3⟩ := eg_true h.2.2
    obtain ⟨z, z1, z2, z3, z4⟩ := EG_true h.1
    have hc : TL.tl c ≠ [] := fun e => by rw [e] at h; exact absurd h.1 (by decide)
    have ok : CutOk (x, y, some z) := ⟨x2, y2, (fun i e => by cases e; exact z2), (fun e => by cases e; exact z3 rfl rfl)⟩
    refine ⟨(x, y, some z), ?_, ok, ?_⟩
    · show (if TL.tl c = [] then none else match EI (TL.tl a), EI (TL.tl b), EI (TL.tl c) with | some x, some y, some z => chkC (x, y, z) | _, _, _ => none) = _
      rw [if_neg hc, x1, y1, show EI (TL.tl c) = some (some z) from by unfold EI; rw [if_neg hc, z1]; rfl]
      exact chk_some ok
    · show edgeT x ++ Str.ofString ":" ++ edgeT y ++ Str.ofString ":" ++ edgeT (some z) = s
      rw [TL.ext_tl x3, TL.ext_tl y3, TL.ext_tl z4, ← hj, join3, app_assoc (a ++ Str.ofString ":"), app_assoc (a ++ Str.ofString ":"), app_assoc b]
theorem CG_false {s : Str} (h : CG s = false) : CI s = none := by
  unfold CG at h
  unfold CI
  revert h
  generalize Txt.split s sColon = ps
  intro h
  match ps, h with
  | [], _ => rfl
  | [_], _ => rfl
  | [a, b], h =>
    have h : (eg (TL.tl a) && eg (TL.tl b)) = false := h
    show (match EI (TL.tl a), EI (TL.tl b) with | some x, some y => chkC (x, y, none) | _, _ => none) = none
    rw [Bool.and_eq_false_iff] at h
    rcases h with h | h
    · rcases eg_false h with z | ⟨v, z, nv⟩
      · rw [z]
      · rw [z]
        cases EI (TL.tl b) with
        | none => rfl
        | some y => exact chk_none fun k => nv k.b
    · rcases eg_false h with z | ⟨v, z, nv⟩
      · rw [z]
        cases EI (TL.tl a) <;> rfl
      · rw [z]
        cases EI (TL.tl a) with
        | none => rfl
        | some y => exact chk_none fun k => nv k.e
  | [a, b, c], h =>
    have h : (EG (TL.tl c) true && (eg (TL.tl a) && eg (TL.tl b))) = false := h
    show (if TL.tl c = [] then none else match EI (TL.tl a), EI (TL.tl b), EI (TL.tl c) with | some x, some y, some z => chkC (x, y, z) | _, _, _ => none) = none
    by_cases hc : TL.tl c = []
    · rw [if_pos hc]
    rw [if_neg hc]
    rw [Bool.and_eq_false_iff, Bool.and_eq_false_iff] at h
    rcases h with h | h | h
    · rcases EG_false h with z | ⟨v, z, nv⟩
      · rw [show EI (TL.tl c) = none from by unfold EI; rw [if_neg hc, z]; rfl]
        cases EI (TL.tl a) <;> cases EI (TL.tl b) <;> rfl
      · rw [show EI (TL.tl c) = some (some v) from by unfold EI; rw [if_neg hc, z]; rfl]
        cases EI (TL.tl a) with
        | none => rfl
        | some x =>
          cases EI (TL.tl b) with
          | none => rfl
          | some y =>
            refine chk_none fun k => ?_
            have := k.s v rfl
            rcases nv with y | y | y
            · omega
            · omega
            · exact k.z (by rw [y.2])
    · rcases eg_false h with z | ⟨v, z, nv⟩
      · rw [z]
      · rw [z]
        cases EI (TL.tl b) with
        | none => rfl
        | some y =>
          cases EI (TL.tl c) with
          | none => rfl
          | some w => exact chk_none fun k => nv k.b
    · rcases eg_false h with z | ⟨v, z, nv⟩
      · rw [z]
        cases EI (TL.tl a) <;> rfl
      · rw [z]
        cases EI (TL.tl a) with
        | none => rfl
        | some y =>
          cases EI (TL.tl c) with
          | none => rfl
          | some w => exact chk_none fun k => nv k.e
  | _ :: _ :: _ :: _ :: _, _ => rfl
theorem edge_free {o : Option Int} {s : Nat} (h : s < 45 ∨ 45 < s ∧ s < 48 ∨ 57 < s) : s ∉ TL.tl (edgeT o) := by
  cases o with
  | none =>
    have e : TL.tl (edgeT none) = [] := by decide +kernel
    rw [e]
    exact List.not_mem_nil
  | some v =>
    by_cases hv : 0 ≤ v
    · obtain ⟨n, rfl⟩ : ∃ n : Nat, v = n := ⟨v.toNat, by omega⟩
      have e : TL.tl (edgeT (some (n : Int))) = TL.numL n := TL.tl_num n
      rw [e]
      exact TL.numL_free (by omega)
    · obtain ⟨n, rfl⟩ : ∃ n : Nat, v = -((n : Nat) : Int) := ⟨(-v).toNat, by omega⟩
      have e : TL.tl (edgeT (some (-((n : Nat) : Int)))) = 45 :: TL.numL n := tl_neg (by omega)
      rw [e]
      intro hm
      rcases List.mem_cons.mp hm with z | z
      · omega
      · exact TL.numL_free (by omega) z
theorem edge_inj {u v : Int} (h : TL.tl (edgeT (some u)) = TL.tl (edgeT (some v))) : u = v := by
  have pos : ∀ n : Nat, TL.tl (edgeT (some (n : Int))) = TL.numL n := TL.tl_num
  have neg : ∀ n : Nat, 0 < n → TL.tl (edgeT (some (-((n : Nat) : Int)))) = 45 :: TL.numL n := fun n hn => tl_neg hn
  have no : ∀ (m n : Nat), TL.numL m ≠ 45 :: TL.numL n := fun m n e => by
    have := TL.numL_digits m 45 (by rw [e]; exact List.mem_cons_self)
    omega
  by_cases hu : 0 ≤ u <;> by_cases hv : 0 ≤ v
  · obtain ⟨m, rfl⟩ : ∃ n : Nat, u = n := ⟨u.toNat, by omega⟩
    obtain ⟨n, rfl⟩ : ∃ n : Nat, v = n := ⟨v.toNat, by omega⟩
    rw [pos, pos] at h
    rw [TL.numL_inj h]
  · obtain ⟨m, rfl⟩ : ∃ n : Nat, u = n := ⟨u.toNat, by omega⟩
    obtain ⟨n, rfl⟩ : ∃ n : Nat, v = -((n : Nat) : Int) := ⟨(-v).toNat, by omega⟩
    rw [pos, neg n (by omega)] at h
    exact absurd h (no m n)
  · obtain ⟨m, rfl⟩ : ∃ n : Nat, u = -((n : Nat) : Int) := ⟨(-u).toNat, by omega⟩
    obtain ⟨n, rfl⟩ : ∃ n : Nat, v = n := ⟨v.toNat, by omega⟩
    rw [pos, neg m (by omega)] at h
    exact absurd h.symm (no n m)
  · obtain ⟨m, rfl⟩ : ∃ n : Nat, u = -((n : Nat) : Int) := ⟨(-u).toNat, by omega⟩
    obtain ⟨n, rfl⟩ : ∃ n : Nat, v = -((n : Nat) : Int) := ⟨(-v).toNat, by omega⟩
    rw [neg m (by omega), neg n (by omega)] at h
    rw [TL.numL_inj (List.cons.inj h).2]
theorem EI_edge {o : Option Int} (h : OiOk o) : EI (TL.tl (edgeT o)) = some o := by
  cases o with
  | none => decide +kernel
  | some v =>
    have hg := EG_num (h v rfl) false (fun z => by cases z)
    obtain ⟨u, h1, _, _, h4⟩ := EG_true hg
    have e := edge_inj h4
    subst e
    unfold EI
    rw [h1]
    rw [if_neg fun z => by rw [z] at hg; exact absurd hg (by decide)]
    rfl
theorem split_written (c : Cut) : Txt.split (writtenM c) sColon = match c.2.2 with
    | none => [edgeT c.1, edgeT c.2.1]
    | some s => [edgeT c.1, edgeT c.2.1, edgeT (some s)] := by
  have ec : TL.tl sColon = [58] := by decide +kernel
  have hk : sColon.cps.all (· < 256) = true := by decide +kernel
  obtain ⟨a, b, s⟩ := c
  cases s with
  | none =>
    have := TL.split_join ec hk (parts := [edgeT a, edgeT b]) (by simp) (fun p hp => by
      rcases List.mem_cons.mp hp with z | z
      · rw [z]; exact edge_free (by omega)
      · rw [List.mem_singleton.mp z]; exact edge_free (by omega))
    rw [TL.join_eq, join2] at this
    exact this
  | some s =>
    have := TL.split_join ec hk (parts := [edgeT a, edgeT b, edgeT (some s)]) (by simp) (fun p hp => by
      simp only [List.mem_cons, List.not_mem_nil, or_false] at hp
      rcases hp with z | z | z <;> rw [z] <;> exact edge_free (by omega))
    rw [TL.join_eq, join3] at this
    show Txt.split (edgeT a ++ Str.ofString ":" ++ edgeT b ++ Str.ofString ":" ++ edgeT (some s)) sColon = _
    rw [app_assoc (edgeT a ++ Str.ofString ":"), app_assoc (edgeT a ++ Str.ofString ":")]
    exact this
theorem CI_written {c : Cut} (h : CutOk c) : CI (writtenM c) = some c := by
  unfold CI
  rw [split_written]
  obtain ⟨a, b, s⟩ := c
  cases s with
  | none =>
    show (match EI (TL.tl (edgeT a)), EI (TL.tl (edgeT b)) with | some x, some y => chkC (x, y, none) | _, _ => none) = _
    rw [EI_edge h.b, EI_edge h.e]
    exact chk_some h
  | some s =>
    have hg := EG_num (h.s s rfl) false (fun z => by cases z)
    show (if TL.tl (edgeT (some s)) = [] then none else match EI (TL.tl (edgeT a)), EI (TL.tl (edgeT b)), EI (TL.tl (edgeT (some s))) with | some x, some y, some z => chkC (x, y, z) | _, _, _ => none) = _
    rw [if_neg fun z => by rw [z] at hg; exact absurd hg (by decide), EI_edge h.b, EI_edge h.e, EI_edge (o := some s) h.s]
    exact chk_some h
end Gd

namespace Gd
open PySem PySem.Spec PyProof.Rows L2 NumText
def allC : List Str → Option (List Cut)
  | [] => some []
  | p :: ps => match CI p with
    | none => none
    | some c => (allC ps).map fun cs => c :: cs
def inner (s : Str) : Str := cutS s (some 1) (some (-1))
/-- whether a text stands in brackets -/
def braced (s : Str) : Bool := decide ((TL.tl s).head? = some 91) && decide ((TL.tl s).getLast? = some 93)
def KI (s : Str) : Option (List Cut) := if TL.tl s = [] then some [] else if braced s = true then (match allC (Txt.split (inner s) sMid) with | some cs => if cs.length ≤ 6 then some cs else none | none => none) else none
def KG (s : Str) : Bool := decide (TL.tl s = []) || (braced s && decide (2 ≤ s.length) && (decide ((Txt.split (inner s) sMid).length ≤ 6) && (Txt.split (inner s) sMid).all CG))
theorem tl_cut (s : Str) (lo hi : Option Int) : TL.tl (cutS s lo hi) = ((TL.tl s).drop (HT.sIx s.length 0 lo)).take (HT.sIx s.length s.length hi - HT.sIx s.length 0 lo) := rfl
theorem tl_inner {s : Str} {l : List Nat} {a b : Nat} (h : TL.tl s = a :: (l ++ [b])) : TL.tl (inner s) = l := by
  unfold inner
  rw [tl_cut]
  have hl : s.length = l.length + 2 := by rw [TL.len_tl, h]; simp
  have e1 : HT.sIx s.length 0 (some 1) = 1 := by
    show (if (1 : Int) < 0 then ((1 : Int) + (s.length : Int)).toNat else min (1 : Int).toNat s.length) = 1
    rw [if_neg (by decide)]
    show min 1 s.length = 1
    omega
  have e2 : HT.sIx s.length s.length (some (-1)) = l.length + 1 := by
    show (if (-1 : Int) < 0 then ((-1 : Int) + (s.length : Int)).toNat else min (-1 : Int).toNat s.length) = _
    rw [if_pos (by decide)]
    omega
  rw [e1, e2, h, List.drop_succ_cons, List.drop_zero, show l.length + 1 - 1 = l.length by omega, List.take_append_of_le_length (Nat.le_refl _), List.take_of_length_le (Nat.le_refl _)]
theorem braced_iff {s : Str} (h : braced s = true) : ∃ l, TL.tl s = 91 :: (l ++ [93]) := by
  unfold braced at h
  rw [Bool.and_eq_true, decide_eq_true_eq, decide_eq_true_eq] at h
  obtain ⟨h1, h2⟩ := h
  obtain ⟨r, er⟩ : ∃ r, TL.tl s = 91 :: r := by
    cases q : TL.tl s with
    | nil => rw [q] at h1; cases h1
    | cons a r => rw [q] at h1; simp at h1; exact ⟨r, by rw [h1]⟩
  rw [er] at h2 ⊢
  have hr : r ≠ [] := fun z => by rw [z] at h2; simp at h2
  refine ⟨r.dropLast, ?_⟩
  congr 1
  have e := List.dropLast_concat_getLast hr
  rw [List.getLast?_cons_of_ne_nil hr, List.getLast?_eq_some_getLast hr] at h2
  rw [← Option.some.inj h2]
  exact e.symm
theorem braced_of {s : Str} {l : List Nat} (h : TL.tl s = 91 :: (l ++ [93])) : braced s = true := by
  unfold braced
  rw [h, Bool.and_eq_true]
  refine ⟨by simp, ?_⟩
  rw [decide_eq_true_eq, List.getLast?_cons_of_ne_nil (by simp)]
  simp
theorem allC_len : ∀ {ps : List Str} {cs : List Cut}, allC ps = some cs → cs.length = ps.length
  | [], cs, h => by cases h; rfl
  | p :: ps, cs, h => by
    unfold allC at h
    cases hc : CI p with
    | none => rw [hc] at h; cases h
    | some c =>
      rw [hc] at h
      obtain ⟨cs', h1, rfl⟩ := Option.map_eq_some_iff.mp h
      rw [List.length_cons, List.length_cons, allC_len h1]
theorem allC_good : ∀ {ps : List Str}, ps.all CG = true → ∃ cs, allC ps = some cs ∧ (∀ c ∈ cs, CutOk c) ∧ cs.map writtenM = ps
  | [], _ => ⟨[], rfl, (fun c h => by cases h), rfl⟩
  | p :: ps, h => by
    rw [List.all_cons, Bool.and_eq_true] at h
    obtain ⟨c, c1, c2, c3⟩ := CG_true h.1
    obtain ⟨cs, k1, k2, k3⟩ := allC_good h.2
    refine ⟨c :: cs, by unfold allC; rw [c1, k1]; rfl, fun x hx => ?_, by rw [List.map_cons, c3, k3]⟩
    rcases List.mem_cons.mp hx with z | z
    · rw [z]; exact c2
    · exact k2 x z
theorem allC_bad : ∀ {ps : List Str}, ps.all CG = false → allC ps = none
  | [], h => by cases h
  | p :: ps, h => by
    unfold allC
    rw [List.all_cons, Bool.and_eq_false_iff] at h
    rcases h with h | h
    · rw [CG_false h]
    · rw [allC_bad h]
      cases CI p <;> rfl
theorem allC_written : ∀ {cs : List Cut}, (∀ c ∈ cs, CutOk c) → allC (cs.map writtenM) = some cs
  | [], _ => rfl
  | c :: cs, h => by
    rw [List.map_cons]
    unfold allC
    rw [CI_written (h c List.mem_cons_self), allC_written fun x hx => h x (List.mem_cons_of_mem _ hx)]
    rfl
theorem tl_mid : TL.tl sMid = [93, 91] := by decide +kernel
theorem glue : ∀ {ps : List (List Nat)}, ps ≠ [] → (ps.map fun p => 91 :: (p ++ [93])).flatten = 91 :: (TL.joinL [93, 91] ps ++ [93])
  | [], h => absurd rfl h
  | [p], _ => by simp [TL.joinL]
  | p :: q :: r, _ => by
    rw [List.map_cons, List.flatten_cons, glue (ps := q :: r) (by simp)]
    show 91 :: (p ++ [93]) ++ 91 :: (TL.joinL [93, 91] (q :: r) ++ [93]) = 91 :: ((p ++ ([93, 91] ++ TL.joinL [93, 91] (q :: r))) ++ [93])
    simp [List.append_assoc]
theorem joinL_nil : ∀ ps : List (List Nat), TL.joinL [] ps = ps.flatten
  | [] => rfl
  | [p] => by simp [TL.joinL]
  | p :: q :: r => by
    show p ++ ([] ++ TL.joinL [] (q :: r)) = _
    rw [joinL_nil (q :: r)]
    rfl
theorem tl_chain (cs : List Cut) : TL.tl (chainT cs) = ((cs.map writtenM).map fun w => 91 :: (TL.tl w ++ [93])).flatten := by
  unfold chainT
  have e0 : TL.tl (Str.ofString "") = [] := by decide +kernel
  rw [TL.join_eq, TL.tl_join, e0, joinL_nil, List.map_map, List.map_map]
  congr 1
  refine List.map_congr_left fun c _ => ?_
  show TL.tl (Str.ofString "[" ++ writtenM c ++ Str.ofString "]") = _
  have e1 : TL.tl (Str.ofString "[") = [91] := by decide +kernel
  have e2 : TL.tl (Str.ofString "]") = [93] := by decide +kernel
  rw [TL.tl_append, TL.tl_append, e1, e2]
  rfl
theorem tl_chain_ne {cs : List Cut} (h : cs ≠ []) : TL.tl (chainT cs) = 91 :: (TL.joinL [93, 91] ((cs.map writtenM).map TL.tl) ++ [93]) := by
  rw [tl_chain, ← glue (ps := (cs.map writtenM).map TL.tl) (by simp [h])]
  congr 1
  rw [List.map_map, List.map_map, List.map_map]
  rfl
theorem spl_ne (S : List Nat) : ∀ (l : List Nat) (k : Nat) (acc : List Nat), TL.spl S k acc l ≠ []
  | [], k, acc => by cases k <;> simp [TL.spl]
  | c :: r, 0, acc => by
    unfold TL.spl
    split
    · simp
    · exact spl_ne S r 0 _
  | c :: r, k + 1, acc => by
    unfold TL.spl
    exact spl_ne S r k acc
theorem split_ne (s : Str) : Txt.split s sMid ≠ [] := fun h => by
  have e := TL.split_spl s sMid (by rw [tl_mid]; simp) (TL.kind_ok (by decide +kernel))
  rw [h] at e
  exact spl_ne _ _ _ _ e.symm
theorem KG_true {s : Str} (h : KG s = true) : ∃ cs, KI s = some cs ∧ ChainOk cs ∧ chainT cs = s := by
  unfold KG at h
  rw [Bool.or_eq_true, decide_eq_true_eq] at h
  by_cases z : TL.tl s = []
  · refine ⟨[], by unfold KI; rw [if_pos z], ⟨Nat.zero_le _, fun c hc => by cases hc⟩, ?_⟩
    apply TL.ext_tl
    rw [z]
    decide +kernel
  have h := h.resolve_left z
  rw [Bool.and_eq_true, Bool.and_eq_true, Bool.and_eq_true, decide_eq_true_eq, decide_eq_true_eq] at h
  obtain ⟨⟨h1, h2⟩, h3, h4⟩ := h
  obtain ⟨cs, k1, k2, k3⟩ := allC_good h4
  have hl := allC_len k1
  refine ⟨cs, ?_, ⟨by omega, k2⟩, ?_⟩
  · unfold KI
    rw [if_neg z, if_pos h1, k1]
    show (if cs.length ≤ 6 then some cs else none) = _
    rw [if_pos (by omega)]
  · obtain ⟨l, hs⟩ := braced_iff h1
    have hi := tl_inner hs
    have hj := StrLaws.join_split (inner s) sMid
    have hne : cs ≠ [] := fun q => by
      have := split_ne (inner s)
      rw [← k3, q] at this
      exact this rfl
    apply TL.ext_tl
    rw [tl_chain_ne hne, k3, hs]
    congr 2
    rw [← hi, ← hj, TL.tl_join, tl_mid, hj]
theorem KG_false {s : Str} (h : KG s = false) : KI s = none := by
  unfold KG at h
  rw [Bool.or_eq_false_iff, decide_eq_false_iff_not] at h
  unfold KI
  rw [if_neg h.1]
  by_cases hb : braced s = true
  · rw [if_pos hb]
    have h2 := h.2
    obtain ⟨l, hs⟩ := braced_iff hb
    have hlen : 2 ≤ s.length := by rw [TL.len_tl, hs]; simp
    rw [hb, decide_eq_true hlen, Bool.true_and, Bool.true_and, Bool.and_eq_false_iff] at h2
    rcases h2 with z | z
    · cases q : allC (Txt.split (inner s) sMid) with
      | none => rfl
      | some cs =>
        have := allC_len q
        show (if cs.length ≤ 6 then some cs else none) = none
        rw [if_neg]
        rw [decide_eq_false_iff_not] at z
        omega
    · rw [allC_bad z]
  · rw [if_neg hb]
theorem written_free (c : Cut) : 93 ∉ TL.tl (writtenM c) := by
  have ec : TL.tl (Str.ofString ":") = [58] := by decide +kernel
  obtain ⟨a, b, s⟩ := c
  cases s with
  | none =>
    show 93 ∉ TL.tl (edgeT a ++ Str.ofString ":" ++ edgeT b)
    rw [TL.tl_append, TL.tl_append, ec]
    intro h
    simp only [List.mem_append, List.mem_singleton] at h
    rcases h with (h | h) | h
    · exact edge_free (by omega) h
    · omega
    · exact edge_free (by omega) h
  | some s =>
    show 93 ∉ TL.tl (edgeT a ++ Str.ofString ":" ++ edgeT b ++ Str.ofString ":" ++ edgeT (some s))
    rw [TL.tl_append, TL.tl_append, TL.tl_append, TL.tl_append, ec]
    intro h
    simp only [List.mem_append, List.mem_singleton] at h
    rcases h with (((h | h) | h) | h) | h
    · exact edge_free (by omega) h
    · omega
    · exact edge_free (by omega) h
    · omega
    · exact edge_free (by omega) h
theorem KI_chain {cs : List Cut} (h : ChainOk cs) : KI (chainT cs) = some cs := by
  by_cases hne : cs = []
  · subst hne
    decide +kernel
  have ht := tl_chain_ne hne
  unfold KI
  rw [if_neg (by rw [ht]; simp), if_pos (braced_of ht)]
  have ei : inner (chainT cs) = Txt.join sMid (cs.map writtenM) := by
    apply TL.ext_tl
    rw [tl_inner ht, TL.join_eq, TL.tl_join, tl_mid]
  rw [ei, TL.split_join tl_mid (by decide +kernel) (by simp [hne]) (fun p hp => by
    obtain ⟨c, _, rfl⟩ := List.mem_map.mp hp
    exact written_free c), allC_written h.all]
  show (if cs.length ≤ 6 then some cs else none) = _
  rw [if_pos h.len]
/-! reading, sign by sign: what the walk asks -/
theorem NI_int {s : Str} {v : Int} (h : NI (TL.tl s) = some v) : PySem.intText? s = some v ∧ s.length ≤ 11 := by
  unfold NI at h
  by_cases h1 : figs (TL.tl s) = [] ∨ 10 < (figs (TL.tl s)).length ∨ (figs (TL.tl s)).all isDig = false
  · rw [if_pos h1] at h; cases h
  rw [if_neg h1] at h
  have hne : figs (TL.tl s) ≠ [] := fun z => h1 (.inl z)
  have hd : AllDigits (figs (TL.tl s)) := (allDig_iff _).mp (by
    cases z : (figs (TL.tl s)).all isDig with
    | true => rfl
    | false => exact absurd (.inr (.inr z)) h1)
  have hlen : (figs (TL.tl s)).length ≤ 10 := by
    by_cases z : 10 < (figs (TL.tl s)).length
    · exact absurd (.inr (.inl z)) h1
    · omega
  by_cases h2 : (figs (TL.tl s)).take 1 = [48] ∧ TL.tl s ≠ [48]
  · rw [if_pos h2] at h; cases h
  rw [if_neg h2] at h
  cases hn : neg? (TL.tl s) with
  | true =>
    rw [hn] at h
    cases h
    have e := neg_cons hn
    have hl : s.length ≤ 11 := by rw [TL.len_tl, e, List.length_cons]; omega
    exact ⟨intText_neg e hd hne (by omega), hl⟩
  | false =>
    rw [hn] at h
    cases h
    have e := figs_pos hn
    rw [e] at hd hne hlen ⊢
    have hl : s.length ≤ 11 := by rw [TL.len_tl]; omega
    exact ⟨intText_digits hd hne (by omega), hl⟩
end Gd

namespace Gd
open PySem PySem.Spec PyProof.Rows L2
/-! ### dicts with tuples of whole numbers as keys -/
abbrev keyT (ns : List Int) : List Key := ns.map Sum.inl
abbrev tupI (ns : List Int) : D := .tup (ns.map D.int)
theorem keyT_V (ns : List Int) : (keyT ns).map kV = ns.map V.int := by
  unfold keyT
  rw [List.map_map]
  rfl
theorem keyT_inj {a b : List Int} (h : keyT a = keyT b) : a = b := by
  induction a generalizing b with
  | nil => cases b with | nil => rfl | cons y b => simp [keyT] at h
  | cons x a ih =>
    cases b with
    | nil => simp [keyT] at h
    | cons y b =>
      simp only [keyT, List.map_cons, List.cons.injEq, Sum.inl.injEq] at h
      rw [h.1, ih h.2]
def valD (kvs : List (List Key × D)) (k : List Key) : Option D := (kvs.find? fun kv => decide (kv.1 = k)).map (·.2)
abbrev KP (ok : Addr → Prop) (H : Hp) : List Key × D → List Key × V → Prop := fun p q => p.1 = q.1 ∧ Rep ok H p.2 q.2
theorem kp_none {ok : Addr → Prop} {H : Hp} {k : List Key} : ∀ {kvs : List (List Key × D)} {kvs' : List (List Key × V)}, Paired (KP ok H) kvs kvs' → valD kvs k = none → valV kvs' k = none
  | _, _, .nil, _ => rfl
  | p :: ps, q :: qs, .cons h t, e => by
    by_cases z : p.1 = k
    · simp [valD, List.find?_cons, z] at e
    · rw [valV_neg (by rw [← h.1]; exact z)]
      refine kp_none t ?_
      simpa [valD, List.find?_cons, z] using e
theorem kp_some {ok : Addr → Prop} {H : Hp} {k : List Key} {x : D} : ∀ {kvs : List (List Key × D)} {kvs' : List (List Key × V)}, Paired (KP ok H) kvs kvs' → valD kvs k = some x → ∃ v, valV kvs' k = some v ∧ Rep ok H x v
  | _, _, .nil, e => by cases e
  | p :: ps, q :: qs, .cons h t, e => by
    by_cases z : p.1 = k
    · have e : p.2 = x := by simpa [valD, List.find?_cons, z] using e
      exact ⟨q.2, valV_pos (by rw [← h.1]; exact z), e ▸ h.2⟩
    · obtain ⟨v, h1, h2⟩ := kp_some t (show valD ps k = some x by simpa [valD, List.find?_cons, z] using e)
      exact ⟨v, by rw [valV_neg (by rw [← h.1]; exact z)]; exact h1, h2⟩
theorem kp_len {ok : Addr → Prop} {H : Hp} : ∀ {kvs : List (List Key × D)} {kvs' : List (List Key × V)}, Paired (KP ok H) kvs kvs' → kvs.length = kvs'.length
  | _, _, .nil => rfl
  | _, _, .cons _ t => by rw [List.length_cons, List.length_cons, kp_len t]
theorem valD_snoc (kvs : List (List Key × D)) (k j : List Key) (x : D) (h : valD kvs k = none) : valD (kvs ++ [(k, x)]) j = if j = k then some x else valD kvs j := by
  induction kvs with
  | nil => by_cases z : k = j
           · simp [valD, List.find?_cons, z]
           · have z2 : ¬ j = k := fun e => z e.symm
             simp [valD, List.find?_cons, z, z2]
  | cons p ps ih =>
    by_cases y : p.1 = k
    · simp [valD, List.find?_cons, y] at h
    · have ih := ih (by simpa [valD, List.find?_cons, y] using h)
      by_cases z : p.1 = j
      · have z2 : ¬ j = k := fun e => y (z.trans e)
        simp [valD, List.find?_cons, z, z2]
      · have e1 : valD (p :: ps ++ [(k, x)]) j = valD (ps ++ [(k, x)]) j := by simp [valD, List.find?_cons, z]
        have e2 : valD (p :: ps) j = valD ps j := by simp [valD, List.find?_cons, z]
        rw [e1, e2, ih]
section
variable {m : M} {H : Hp} {p a : Addr} {xc : Xc} {d : Dl} {Q : D → M → Prop} {ta tb : TE}
theorem MSat.cellT (s : MSat m H) (np : H p = none) : MSat ((p, .dT []) :: m) (upd H p (.dT [])) := by
  have st : Step m H ((p, .dT []) :: m) (upd H p (.dT [])) := Step.cell np
  refine ⟨List.nodup_cons.mpr ⟨s.off_new np, s.nd⟩, fun q hq => ?_⟩
  rcases List.mem_cons.mp hq with e | h
  · subst e
    exact ⟨[], upd_same, .nil⟩
  · obtain ⟨u, e⟩ := (s.all q h).there
    exact (s.all q h).mono st.tups st.h2 (upd_ne (ne_of_none e np))
theorem ge_dnewT (q : ∀ p, p ∉ dom m → Q (.ref p) ((p, .dT []) :: m)) : ge xc tDNewT d m Q := fun sg H s e Q' k p np => k _ _ (.ref p) _ (.cell np) (.ref p) (s.cellT np) (q p (s.off_new np))
/-- key not in known -/
abbrev rNinT : R2 := fun x y H Q => ∃ a o, y = .ref a ∧ DGet H a x o ∧ Q (.bl (!o.isSome)) H
theorem kNinT {X : Cx} (hu : X.A.units + 64 < cLine) : OpR X (compareOp .NotIn) rNinT := by
  intro pins s σ H x y v u Q I rx ry h
  obtain ⟨a, o, rfl, g, q⟩ := h
  obtain rfl : u = Value.ref a := ry
  exact d_notIn (by omega) I g rx fun s' I' => ⟨.bl (!o.isSome), H, I', rfl, q⟩
theorem g2_ninTT {ns : List Int} {kvs : List (List Key × D)} (q : Q (.bl (!(valD kvs (keyT ns)).isSome)) ((a, .dT kvs) :: m)) : g2 rNinT (tupI ns) (.ref a) ((a, .dT kvs) :: m) Q := fun H vx vy s r1 r2 Q' k => by
  obtain ⟨b, us, rfl, eb, rb⟩ := r1.tup_inv
  obtain ⟨kvs', ea, ra⟩ := s.get (j := 0) rfl
  have hk : us = (keyT ns).map kV := by rw [keyT_V]; exact Reps.ints_inv rb
  subst hk
  refine ⟨a, valV kvs' (keyT ns), r2.ref_inv, DGet.t ea eb, ?_⟩
  have e : (valV kvs' (keyT ns)).isSome = (valD kvs (keyT ns)).isSome := by
    cases z : valD kvs (keyT ns) with
    | none => rw [kp_none ra z]; rfl
    | some x =>
      obtain ⟨v, h1, _⟩ := kp_some ra z
      rw [h1]
      rfl
  rw [e]
  exact k _ H _ _ .refl (.bl _) s q
/-- known[key] -/
theorem kDget {X : Cx} {o i : Expr} {pos : Pos} {td ty : TE} (hu : X.A.units + 64 < cLine) (ho : PE X o td) (hi : PE X i ty) (hs : NoSl i) : PE X (.Subscript o i pos) (tDGet td ty) := pe_dget (by omega) ho hi hs
theorem ge_dget (h : ge xc ta d m fun o m1 => ge xc tb d m1 fun i m2 => ∃ (a : Addr) (ns : List Int) (kvs : List (List Key × D)) (x : D) (m3 : M), o = .ref a ∧ i = tupI ns ∧ m2 = (a, .dT kvs) :: m3 ∧ valD kvs (keyT ns) = some x ∧ Q x m2) : ge xc (tDGet ta tb) d m Q := fun sg H s e Q' k =>
  h sg H s e _ fun vo H1 o m1 s1 r1 t1 q => q sg H1 t1 (e.step s1) _ fun vi H2 i m2 s2 r2 t2 ⟨a, ns, kvs, x, m3, ho, hi, hm, hv, q2⟩ => by
    subst ho hi hm
    obtain ⟨b, us, rfl, eb, rb⟩ := r2.tup_inv
    obtain ⟨kvs', ea, ra⟩ := t2.get (j := 0) rfl
    have hk : us = (keyT ns).map kV := by rw [keyT_V]; exact Reps.ints_inv rb
    subst hk
    obtain ⟨v, h1, h2⟩ := kp_some ra hv
    refine ⟨a, v, (r1.step s2).ref_inv, h1 ▸ DGet.t ea eb, ?_⟩
    exact k _ H2 _ _ (s1.trans s2) h2 t2 q2
/-- known[key] = x, a new key -/
abbrev rSetT : TSet := fun o i v H Q => ∃ a H4, o = .ref a ∧ DPut H a i v H4 ∧ Q H4
theorem set_dT {X : Cx} (hu : X.A.units + 64 < cLine) : PSet X rSetT := by
  intro pins s σ H o i v ov iv u Q I ro ri rv h
  obtain ⟨a, H4, rfl, g, q⟩ := h
  obtain rfl : ov = Value.ref a := ro
  exact d_setItem (by omega) I g ri rv fun s' I' => ⟨H4, I', q⟩
theorem gg_subT {x : D} {Q : Dl → M → Prop} (h : ge xc ta d m fun o m1 => ge xc tb d m1 fun i m2 => ∃ (a : Addr) (ns : List Int) (kvs : List (List Key × D)) (m3 : M), o = .ref a ∧ i = tupI ns ∧ m2 = (a, .dT kvs) :: m3 ∧ valD kvs (keyT ns) = none ∧ kvs.length ≤ 1000 ∧ Q d ((a, .dT (kvs ++ [(keyT ns, x)])) :: m3)) : gg xc (gSub ta tb rSetT) x d m Q := fun v sg H s e r Q' k =>
  h sg H s e _ fun vo H1 o m1 s1 r1 t1 q => q sg H1 t1 (e.step s1) _ fun vi H2 i m2 s2 r2 t2 ⟨a, ns, kvs, m3, ho, hi, hm, hv, hl, q2⟩ => by
    subst ho hi hm
    obtain ⟨b, us, rfl, eb, rb⟩ := r2.tup_inv
    obtain ⟨kvs', ea, ra⟩ := t2.get (j := 0) rfl
    have hk : us = (keyT ns).map kV := by rw [keyT_V]; exact Reps.ints_inv rb
    subst hk
    have s12 := s1.trans s2
    have hz : 1000 < sizeLine := by decide
    have hm0 : (((a, MO.dT kvs) :: m3) : M)[0]? = some (a, .dT kvs) := rfl
    refine ⟨a, _, (r1.step s2).ref_inv, DPut.t ea eb (by rw [← kp_len ra]; omega), ?_⟩
    rw [putK_new v (kp_none ra hv)]
    have st : Step ((a, MO.dT kvs) :: m3) H2 ((a, .dT (kvs ++ [(keyT ns, x)])) :: m3) (upd H2 a (.dT (kvs' ++ [(keyT ns, v)]))) := Step.write (o' := .dT (kvs ++ [(keyT ns, x)])) t2 hm0
    refine k sg _ d _ (s12.trans st) (MSat.write (o' := .dT (kvs ++ [(keyT ns, x)])) t2 hm0 ⟨_, upd_same, ?_⟩) ((e.step s12).step st) q2
    have ra2 : Paired (KP (off ((a, MO.dT kvs) :: m3)) H2) (kvs ++ [(keyT ns, x)]) (kvs' ++ [(keyT ns, v)]) := Paired.snoc ra ⟨rfl, r.step s12⟩
    exact Paired.mapP ra2 fun _ _ z => ⟨z.1, z.2.step st⟩
end
section
variable {i j : Int} {m : M} {Q : D → M → Prop}
theorem g2_shl (c : CPow i j) (q : Q (.int (i * 2 ^ j.toNat)) m) : g2 (rI CPow fun i j => .int (i * 2 ^ j.toNat)) (.int i) (.int j) m Q := g2_intC (g := fun i j => i * 2 ^ j.toNat) c q
theorem g2_shr (c : 0 ≤ j) (q : Q (.int (i / 2 ^ j.toNat)) m) : g2 (rI (fun _ j => 0 ≤ j) fun i j => .int (i / 2 ^ j.toNat)) (.int i) (.int j) m Q := g2_intC (C := fun _ j => 0 ≤ j) (g := fun i j => i / 2 ^ j.toNat) c q
end
end Gd

namespace Gd
open PySem PySem.Spec PyProof.Rows L2
/-! ### places parted into rows by one step -/
def stepB (s : Int) : List Int → Bool
  | a :: b :: r => decide (b = a + s) && stepB s (b :: r)
  | _ => true
theorem spanL_cons (a s : Int) (n : Nat) : spanL (a, s, ((n + 1 : Nat) : Int)) = a :: spanL (a + s, s, (n : Int)) := by
  unfold spanL
  show (List.range (((n + 1 : Nat) : Int)).toNat).map _ = _ :: (List.range ((n : Int)).toNat).map _
  rw [Int.toNat_natCast, Int.toNat_natCast, List.range_succ_eq_map, List.map_cons, List.map_map]
  congr 1
  · show a + s * ((0 : Nat) : Int) = a
    simp
  · refine List.map_congr_left fun k _ => ?_
    show a + s * ((k + 1 : Nat) : Int) = a + s + s * (k : Int)
    rw [Int.natCast_add, Int.mul_add]
    simp
    omega
theorem stepB_of : ∀ (r : List Int) (a s : Int), stepB s (a :: r) = true → a :: r = spanL (a, s, ((r.length + 1 : Nat) : Int))
  | [], a, s, _ => by rw [List.length_nil, spanL_cons]; rfl
  | b :: r, a, s, h => by
    simp only [stepB, Bool.and_eq_true, decide_eq_true_eq] at h
    have ih := stepB_of r b s h.2
    rw [spanL_cons, List.length_cons, ← h.1, ← ih]
theorem stepB_spanL (s : Int) : ∀ (n : Nat) (a : Int), stepB s (spanL (a, s, (n : Int))) = true
  | 0, a => rfl
  | 1, a => by rw [show ((1 : Nat) : Int) = ((0 + 1 : Nat) : Int) from rfl, spanL_cons]; rfl
  | n + 2, a => by
    have ih := stepB_spanL s (n + 1) (a + s)
    rw [show ((n + 2 : Nat) : Int) = ((n + 1 + 1 : Nat) : Int) from rfl, spanL_cons]
    rw [spanL_cons] at ih ⊢
    show (decide (a + s = a + s) && stepB s _) = true
    rw [ih]
    simp
theorem spanL_rise {r : Spn} (hs : 1 ≤ r.2.1) : (spanL r).Pairwise (· < ·) := by
  unfold spanL
  rw [List.pairwise_map]
  refine List.Pairwise.imp (fun {a b} hab => ?_) List.pairwise_lt_range
  have h : r.2.1 * ((a : Int) + 1) ≤ r.2.1 * (b : Int) := Int.mul_le_mul_of_nonneg_left (by omega) (by omega)
  rw [Int.mul_add] at h
  omega
theorem pw_nodup {ns : List Int} (h : ns.Pairwise (· < ·)) : ns.Nodup := h.imp fun z e => by omega
structure RowOf (ns row : List Int) : Prop where
  hd : ∃ a r t, ns = a :: r ∧ row = a :: t
  st : ∃ s, 1 ≤ s ∧ stepB s row = true
  sub : ∀ x ∈ row, x ∈ ns
theorem RowOf.lt {ns row : List Int} (h : RowOf ns row) : row.Pairwise (· < ·) := by
  obtain ⟨a, r, t, e1, e2⟩ := h.hd
  obtain ⟨s, h1, h2⟩ := h.st
  rw [e2] at h2 ⊢
  rw [stepB_of t a s h2]
  exact spanL_rise h1
abbrev outOf (row ns : List Int) : List Int := ns.filter fun x => !decide (x ∈ row)
inductive Splits : List Int → Nat → Prop
  | nil : Splits [] 0
  | row {ns row : List Int} {k : Nat} : RowOf ns row → Splits (outOf row ns) k → Splits ns (k + 1)
def Few (ns : List Int) (k : Nat) : Prop := Splits ns k ∧ ∀ j, Splits ns j → k ≤ j
theorem Few.uniq {ns : List Int} {k j : Nat} (h : Few ns k) (g : Few ns j) : k = j := Nat.le_antisymm (h.2 j g.1) (g.2 k h.1)
theorem few_nil : Few [] 0 := ⟨.nil, fun j _ => Nat.zero_le j⟩
theorem splits_pos {ns : List Int} {k : Nat} (h : Splits ns k) (hn : ns ≠ []) : 1 ≤ k := by
  cases h with
  | nil => exact absurd rfl hn
  | row _ _ => omega
theorem out_pw {ns row : List Int} (h : ns.Pairwise (· < ·)) : (outOf row ns).Pairwise (· < ·) := h.filter _
theorem out_sub {ns row : List Int} {x : Int} (h : x ∈ outOf row ns) : x ∈ ns := (List.mem_filter.mp h).1
theorem out_len {ns row : List Int} (h : RowOf ns row) : (outOf row ns).length < ns.length := by
  obtain ⟨a, r, t, e1, e2⟩ := h.hd
  rw [e1, e2]
  show ((a :: r).filter _).length < _
  rw [List.filter_cons_of_neg (by simp), List.length_cons]
  have := List.length_filter_le (fun x => !decide (x ∈ a :: t)) r
  omega
theorem out1 {a : Int} {r : List Int} (h : (a :: r).Pairwise (· < ·)) : outOf [a] (a :: r) = r := by
  show (a :: r).filter _ = r
  rw [List.filter_cons_of_neg (by simp)]
  refine List.filter_eq_self.mpr fun x hx => ?_
  have h1 := (List.pairwise_cons.mp h).1 x hx
  have h2 : x ≠ a := by omega
  simp [h2]
theorem out2 {a b : Int} {r : List Int} (h : (a :: b :: r).Pairwise (· < ·)) : outOf [a, b] (a :: b :: r) = r := by
  show (a :: b :: r).filter _ = r
  rw [List.filter_cons_of_neg (by simp), List.filter_cons_of_neg (by simp)]
  refine List.filter_eq_self.mpr fun x hx => ?_
  have h1 := (List.pairwise_cons.mp h).1 x (List.mem_cons_of_mem _ hx)
  have h3 := (List.pairwise_cons.mp (List.pairwise_cons.mp h).2).1 x hx
  have h2 : x ≠ a := by omega
  have h4 : x ≠ b := by omega
  simp [h2, h4]
theorem row1 (a : Int) (r : List Int) : RowOf (a :: r) [a] := ⟨⟨a, r, [], rfl, rfl⟩, ⟨1, by decide, rfl⟩, fun x hx => by rw [List.mem_singleton.mp hx]; exact List.mem_cons_self⟩
theorem row2 {a b : Int} {r : List Int} (h : (a :: b :: r).Pairwise (· < ·)) : RowOf (a :: b :: r) [a, b] := by
  have h1 := (List.pairwise_cons.mp h).1 b List.mem_cons_self
  refine ⟨⟨a, b :: r, [b], rfl, rfl⟩, ⟨b - a, by omega, ?_⟩, fun x hx => ?_⟩
  · show (decide (b = a + (b - a)) && true) = true
    rw [decide_eq_true (by omega)]
    rfl
  · rcases List.mem_cons.mp hx with e | hx
    · rw [e]; exact List.mem_cons_self
    · rw [List.mem_singleton.mp hx]; exact List.mem_cons_of_mem _ List.mem_cons_self
theorem splits_all : ∀ {ns : List Int}, ns.Pairwise (· < ·) → Splits ns ns.length
  | [], _ => .nil
  | a :: r, h => .row (row1 a r) (by rw [out1 h]; exact splits_all (List.pairwise_cons.mp h).2)
theorem splits_half : ∀ {ns : List Int}, ns.Pairwise (· < ·) → Splits ns ((ns.length + 1) / 2)
  | [], _ => .nil
  | [a], h => by
    have e : ([a].length + 1) / 2 = 0 + 1 := by simp
    rw [e]
    exact .row (row1 a []) (by rw [out1 h]; exact .nil)
  | a :: b :: r, h => by
    have e : ((a :: b :: r).length + 1) / 2 = (r.length + 1) / 2 + 1 := by
      rw [List.length_cons, List.length_cons]
      omega
    rw [e]
    exact .row (row2 h) (by rw [out2 h]; exact splits_half (List.pairwise_cons.mp (List.pairwise_cons.mp h).2).2)
theorem splits_one {ns : List Int} (hn : ns ≠ []) {s : Int} (h1 : 1 ≤ s) (h2 : stepB s ns = true) : Splits ns 1 := by
  cases ns with
  | nil => exact absurd rfl hn
  | cons a r =>
    have e : outOf (a :: r) (a :: r) = [] := List.filter_eq_nil_iff.mpr fun x hx => by simp [show x ∈ a :: r from hx]
    exact .row (row := a :: r) ⟨⟨a, r, r, rfl, rfl⟩, ⟨s, h1, h2⟩, fun x hx => hx⟩ (by rw [e]; exact .nil)
theorem row_perm {ns row rest : List Int} (h1 : ns.Nodup) (h2 : row.Nodup) (h3 : ∀ x ∈ row, x ∈ ns) (h : rest.Perm (outOf row ns)) : (row ++ rest).Perm ns := by
  refine (List.Perm.append_left row h).trans ?_
  have e : row.Perm (ns.filter fun x => decide (x ∈ row)) := (List.perm_ext_iff_of_nodup h2 (h1.filter _)).mpr fun x => by
    rw [List.mem_filter, decide_eq_true_eq]
    exact ⟨fun h => ⟨h3 x h, h⟩, fun h => h.2⟩
  exact (List.Perm.append_right _ e).trans (List.filter_append_perm (fun x => decide (x ∈ row)) ns)
structure SpanN (s : Spn) (l : Int) : Prop extends SpanIn s l where
  ne : spanL s ≠ []
/-- rows that part places, the fewest -/
structure BestOk (l : Int) (ns : List Int) (best : List Spn) : Prop where
  perm : (best.flatMap spanL).Perm ns
  inn : ∀ r ∈ best, SpanN r l
  few : Few ns best.length
theorem best_nil (l : Int) : BestOk l [] [] := ⟨.refl _, (fun r h => by cases h), few_nil⟩
/-- one of the spans that begin with the first place -/
structure FromOk (l : Int) (ns : List Int) (r : Spn) : Prop where
  row : RowOf ns (spanL r)
  inn : SpanIn r l
theorem best_new {l : Int} {ns : List Int} {one : Spn} {rest : List Spn} (hp : ns.Pairwise (· < ·)) (h : FromOk l ns one) (b : BestOk l (outOf (spanL one) ns) rest) :
    ((one :: rest).flatMap spanL).Perm ns ∧ (∀ r ∈ one :: rest, SpanN r l) ∧ Splits ns (one :: rest).length ∧ ∀ j, Splits (outOf (spanL one) ns) j → (one :: rest).length ≤ j + 1 := by
  refine ⟨?_, fun r hr => ?_, .row h.row b.few.1, fun j hj => ?_⟩
  · rw [List.flatMap_cons]
    exact row_perm (pw_nodup hp) (pw_nodup h.row.lt) h.row.sub b.perm
  · rcases List.mem_cons.mp hr with e | hr
    · rw [e]
      refine ⟨h.inn, fun z => ?_⟩
      obtain ⟨a, r, t, _, e2⟩ := h.row.hd
      rw [z] at e2
      cases e2
    · exact b.inn r hr
  · have := b.few.2 j hj
    rw [List.length_cons]
    omega
/-- the spans that rows_from finds -/
structure FoundOk (l : Int) (ns : List Int) (found : List Spn) : Prop where
  ok : ∀ r ∈ found, FromOk l ns r
  all : ∀ row, RowOf ns row → ∃ r ∈ found, spanL r = row
  len : found.length ≤ 1000
  ne : found ≠ []
theorem few_of {l : Int} {ns : List Int} {found : List Spn} {k : Nat} (f : FoundOk l ns found) (hn : ns ≠ []) (h1 : Splits ns k) (h2 : ∀ r ∈ found, ∀ j, Splits (outOf (spanL r) ns) j → k ≤ j + 1) : Few ns k := by
  refine ⟨h1, fun j hj => ?_⟩
  cases hj with
  | nil => exact absurd rfl hn
  | row hr hs =>
    obtain ⟨r, hr1, hr2⟩ := f.all _ hr
    exact h2 r hr1 _ (by rw [hr2]; exact hs)
/-! what is known -/
structure KnownOk (l : Int) (all : List Int) (kvs : List (List Key × D)) : Prop where
  nd : (kvs.map (·.1)).Nodup
  ent : ∀ p ∈ kvs, ∃ (ns : List Int) (best : List Spn), p = (keyT ns, .lst (best.map spnD)) ∧ BestOk l ns best ∧ ns.Pairwise (· < ·) ∧ ∀ x ∈ ns, x ∈ all
theorem known_nil (l : Int) (all : List Int) : KnownOk l all [] := ⟨List.nodup_nil, (fun p h => by cases h)⟩
theorem valD_mem {kvs : List (List Key × D)} {k : List Key} {x : D} (h : valD kvs k = some x) : (k, x) ∈ kvs := by
  unfold valD at h
  obtain ⟨p, h1, h2⟩ := Option.map_eq_some_iff.mp h
  have h3 := List.find?_some h1
  have h4 : p.1 = k := of_decide_eq_true h3
  have h5 := List.mem_of_find?_eq_some h1
  rw [← h4, ← h2]
  exact h5
theorem valD_none {kvs : List (List Key × D)} {k : List Key} (h : valD kvs k = none) : k ∉ kvs.map (·.1) := by
  intro hm
  obtain ⟨p, hp, e⟩ := List.mem_map.mp hm
  unfold valD at h
  have h2 := List.find?_eq_none.mp (Option.map_eq_none_iff.mp h) p hp
  exact h2 (by rw [decide_eq_true e])
theorem KnownOk.get {l : Int} {all ns : List Int} {kvs : List (List Key × D)} {x : D} (h : KnownOk l all kvs) (e : valD kvs (keyT ns) = some x) : ∃ best : List Spn, x = .lst (best.map spnD) ∧ BestOk l ns best := by
  obtain ⟨ns', best, e1, b, _, _⟩ := h.ent _ (valD_mem e)
  obtain ⟨e2, e3⟩ := Prod.mk.inj e1
  rw [keyT_inj e2]
  exact ⟨best, e3, b⟩
theorem KnownOk.put {l : Int} {all ns : List Int} {kvs : List (List Key × D)} {best : List Spn} (h : KnownOk l all kvs) (e : valD kvs (keyT ns) = none) (b : BestOk l ns best) (hp : ns.Pairwise (· < ·)) (hs : ∀ x ∈ ns, x ∈ all) : KnownOk l all (kvs ++ [(keyT ns, .lst (best.map spnD))]) := by
  refine ⟨?_, fun p hp2 => ?_⟩
  · rw [List.map_append]
    refine List.nodup_append.mpr ⟨h.nd, by simp, fun a ha b hb => ?_⟩
    intro z
    have hb : b = keyT ns := by simpa using hb
    rw [z, hb] at ha
    exact valD_none e ha
  · rcases List.mem_append.mp hp2 with z | z
    · exact h.ent p z
    · rw [List.mem_singleton.mp z]
      exact ⟨ns, best, rfl, b, hp, hs⟩
theorem sub_count : ∀ (all : List Int), all.Pairwise (· < ·) → ∀ L : List (List Int), L.Nodup → (∀ ns ∈ L, ns.Pairwise (· < ·) ∧ ∀ x ∈ ns, x ∈ all) → L.length ≤ 2 ^ all.length
  | [], _, L, hd, h => by
    have e : ∀ ns ∈ L, ns = [] := fun ns hn => by
      cases ns with
      | nil => rfl
      | cons x ns => exact absurd ((h _ hn).2 x List.mem_cons_self) List.not_mem_nil
    match L, hd, e with
    | [], _, _ => exact Nat.zero_le _
    | [a], _, _ => exact Nat.le_refl _
    | a :: b :: r, hd, e =>
      have h1 := e a List.mem_cons_self
      have h2 := e b (List.mem_cons_of_mem _ List.mem_cons_self)
      exact absurd (h1.trans h2.symm) ((List.pairwise_cons.mp hd).1 b List.mem_cons_self)
  | a :: r, hp, L, hd, h => by
    have hp1 := (List.pairwise_cons.mp hp).1
    have hp2 := (List.pairwise_cons.mp hp).2
    have key := List.length_eq_countP_add_countP (fun ns : List Int => decide (ns.head? = some a)) (l := L)
    rw [List.countP_eq_length_filter, List.countP_eq_length_filter] at key
    have hx : ∀ ns ∈ L, ∀ x y t, ns = y :: t → x ∈ t → x ∈ r := fun ns hn x y t e hx => by
      obtain ⟨q1, q2⟩ := h ns hn
      have q3 := q2 x (by rw [e]; exact List.mem_cons_of_mem _ hx)
      rcases List.mem_cons.mp q3 with z | z
      · have q4 := q2 y (by rw [e]; exact List.mem_cons_self)
        rw [e] at q1
        have q5 := (List.pairwise_cons.mp q1).1 x hx
        rcases List.mem_cons.mp q4 with w | w
        · omega
        · have := hp1 y w; omega
      · exact z
    have A : ((L.filter fun ns : List Int => decide (ns.head? = some a)).map List.tail).length ≤ 2 ^ r.length := by
      refine sub_count r hp2 _ ?_ fun ns hn => ?_
      · rw [List.Nodup, List.pairwise_map]
        refine List.Pairwise.imp_of_mem (fun {x y} hx hy hne z => ?_) (hd.filter _)
        have h1 : x.head? = some a := of_decide_eq_true (List.mem_filter.mp hx).2
        have h2 : y.head? = some a := of_decide_eq_true (List.mem_filter.mp hy).2
        cases x with
        | nil => cases h1
        | cons x1 x2 =>
          cases y with
          | nil => cases h2
          | cons y1 y2 =>
            cases h1
            cases h2
            exact hne (by rw [show x2 = y2 from z])
      · obtain ⟨ms, hm, e⟩ := List.mem_map.mp hn
        obtain ⟨hm1, hm2⟩ := List.mem_filter.mp hm
        have hm2 : ms.head? = some a := of_decide_eq_true hm2
        cases ms with
        | nil => cases hm2
        | cons y t =>
          have e : t = ns := e
          subst e
          exact ⟨(List.pairwise_cons.mp (h _ hm1).1).2, fun x hx2 => hx _ hm1 x y t rfl hx2⟩
    have B : (L.filter fun ns : List Int => decide ¬ (decide (ns.head? = some a)) = true).length ≤ 2 ^ r.length := by
      refine sub_count r hp2 _ (hd.filter _) fun ns hn => ?_
      obtain ⟨hm1, hm2⟩ := List.mem_filter.mp hn
      have hm2 : ¬ ns.head? = some a := fun z => of_decide_eq_true hm2 (by rw [decide_eq_true z])
      refine ⟨(h _ hm1).1, fun x hx2 => ?_⟩
      cases ns with
      | nil => cases hx2
      | cons y t =>
        rcases List.mem_cons.mp hx2 with e | hx3
        · have q4 := (h _ hm1).2 y List.mem_cons_self
          rcases List.mem_cons.mp q4 with w | w
          · exact absurd (by rw [w]; rfl) hm2
          · rw [e]; exact w
        · exact hx _ hm1 x y t rfl hx3
    rw [List.length_map] at A
    have P : 2 ^ (a :: r).length = 2 ^ r.length + 2 ^ r.length := by rw [List.length_cons, Nat.pow_succ]; omega
    rw [P]
    omega
theorem sub_len {ns all : List Int} (h2 : ns.Pairwise (· < ·)) (h4 : all.Pairwise (· < ·)) (h3 : ∀ x ∈ ns, x ∈ all) : ns.length ≤ all.length := by
  have e : ns.Perm (all.filter fun x => decide (x ∈ ns)) := (List.perm_ext_iff_of_nodup (pw_nodup h2) ((pw_nodup h4).filter _)).mpr fun x => by
    rw [List.mem_filter, decide_eq_true_eq]
    exact ⟨fun h => ⟨h3 x h, h⟩, fun h => h.2⟩
  rw [e.length_eq]
  exact List.length_filter_le _ _
theorem KnownOk.len {l : Int} {all : List Int} {kvs : List (List Key × D)} (h : KnownOk l all kvs) (hp : all.Pairwise (· < ·)) (hl : all.length ≤ 8) : kvs.length ≤ 256 := by
  have un : ∀ ks : List Key, ∃ ns : List Int, (∃ ms, ks = keyT ms) → ks = keyT ns := fun ks => by
    by_cases z : ∃ ms, ks = keyT ms
    · obtain ⟨ms, e⟩ := z
      exact ⟨ms, fun _ => e⟩
    · exact ⟨[], fun w => absurd w z⟩
  have ex : ∃ L : List (List Int), kvs.map (·.1) = L.map keyT := by
    have : ∀ kvs : List (List Key × D), (∀ p ∈ kvs, ∃ ns : List Int, p.1 = keyT ns) → ∃ L : List (List Int), kvs.map (·.1) = L.map keyT := by
      intro kvs
      induction kvs with
      | nil => intro _; exact ⟨[], rfl⟩
      | cons p ps ih =>
        intro hh
        obtain ⟨L, e⟩ := ih fun q hq => hh q (List.mem_cons_of_mem _ hq)
        obtain ⟨ns, e2⟩ := hh p List.mem_cons_self
        exact ⟨ns :: L, by rw [List.map_cons, List.map_cons, e, e2]⟩
    exact this kvs fun p hp => by
      obtain ⟨ns, best, e, _⟩ := h.ent p hp
      exact ⟨ns, by rw [e]⟩
  obtain ⟨L, e⟩ := ex
  have hnd : (L.map keyT).Nodup := e ▸ h.nd
  have hL : L.Nodup := by
    rw [List.Nodup, List.pairwise_map] at hnd
    exact hnd.imp fun hne z => hne (by rw [z])
  have hlen : kvs.length = L.length := by
    have := congrArg List.length e
    rw [List.length_map, List.length_map] at this
    exact this
  rw [hlen]
  refine Nat.le_trans (sub_count all hp L hL fun ns hn => ?_) (Nat.pow_le_pow_right (by decide) hl)
  have hm : keyT ns ∈ kvs.map (·.1) := e ▸ List.mem_map.mpr ⟨ns, hn, rfl⟩
  obtain ⟨p, hp1, hp2⟩ := List.mem_map.mp hm
  obtain ⟨ns', best, e1, _, h2, h3⟩ := h.ent p hp1
  rw [e1] at hp2
  have e3 : ns' = ns := keyT_inj hp2
  rw [← e3]
  exact ⟨h2, h3⟩
end Gd

namespace Gd
open PySem PySem.Spec PyProof.Rows L2
/-! ### the law's count of rows -/
def maskL : List Int → Nat → List Int
  | [], _ => []
  | x :: r, n => if n % 2 = 1 then x :: maskL r (n / 2) else maskL r (n / 2)
def bitF (n : Nat) : D → Option D := fun x => match x with
  | .tup [.int k, y] => if decide (Builtin.bitAnd ((n : Int) / 2 ^ k.toNat) 1 = 1) = true then some y else none
  | _ => none
theorem bit_one (n o : Nat) : (Builtin.bitAnd ((n : Int) / 2 ^ (((o : Nat) : Int)).toNat) 1 = 1) ↔ n / 2 ^ o % 2 = 1 := by
  have h : (2 : Int) ^ (((o : Nat) : Int)).toNat = ((2 ^ o : Nat) : Int) := by
    rw [Int.toNat_natCast, Int.natCast_pow]
    rfl
  have h2 : Builtin.bitAnd ((n / 2 ^ o : Nat) : Int) 1 = ((n / 2 ^ o : Nat) : Int) % 2 := by
    have := PySem.W.kbt_mask ((n / 2 ^ o : Nat) : Int) 1
    simpa using this
  rw [h, ← Int.natCast_ediv, h2]
  omega
theorem mask_items (n : Nat) : ∀ (r : List Int) (o : Nat), (((r.map D.int).zipIdx o).map fun p : D × Nat => D.tup [.int ((p.2 : Nat) : Int), p.1]).filterMap (bitF n) = (maskL r (n / 2 ^ o)).map D.int
  | [], o => rfl
  | x :: r, o => by
    have ih := mask_items n r (o + 1)
    rw [List.map_cons, List.zipIdx_cons, List.map_cons, List.filterMap_cons, ih]
    have e : n / 2 ^ (o + 1) = n / 2 ^ o / 2 := by rw [Nat.pow_succ, Nat.div_div_eq_div_mul]
    rw [e]
    by_cases z : n / 2 ^ o % 2 = 1
    · have e2 : bitF n (D.tup [.int ((o : Nat) : Int), .int x]) = some (.int x) := by
        show (if decide _ = true then _ else _) = _
        rw [if_pos (decide_eq_true ((bit_one n o).mpr z))]
      rw [e2, maskL, if_pos z]
      rfl
    · have e2 : bitF n (D.tup [.int ((o : Nat) : Int), .int x]) = none := by
        show (if decide _ = true then _ else _) = _
        rw [if_neg (fun h => z ((bit_one n o).mp (of_decide_eq_true h)))]
      rw [e2, maskL, if_neg z]
theorem mask_enum (n : Nat) (r : List Int) : (enumD (r.map D.int)).filterMap (bitF n) = (maskL r n).map D.int := by
  have := mask_items n r 0
  rw [Nat.pow_zero, Nat.div_one] at this
  exact this
theorem mask_sublist : ∀ (r : List Int) (n : Nat), (maskL r n).Sublist r
  | [], _ => .slnil
  | x :: r, n => by
    rw [maskL]
    split
    · exact (mask_sublist r _).cons₂ x
    · exact (mask_sublist r _).cons x
theorem mask_all : ∀ (r : List Int), r.Pairwise (· < ·) → ∀ t : List Int, t.Pairwise (· < ·) → (∀ x ∈ t, x ∈ r) → ∃ n, n < 2 ^ r.length ∧ maskL r n = t
  | [], _, t, _, h => by
    cases t with
    | nil => exact ⟨0, by decide, rfl⟩
    | cons x t => exact absurd (h x List.mem_cons_self) List.not_mem_nil
  | a :: r, hp, t, ht, h => by
    have hp1 := (List.pairwise_cons.mp hp).1
    have hp2 := (List.pairwise_cons.mp hp).2
    have P : 2 ^ (a :: r).length = 2 ^ r.length * 2 := by rw [List.length_cons, Nat.pow_succ]
    by_cases z : t.head? = some a
    · cases t with
      | nil => cases z
      | cons b t =>
        cases z
        have ht1 := (List.pairwise_cons.mp ht).1
        obtain ⟨n, h1, h2⟩ := mask_all r hp2 t (List.pairwise_cons.mp ht).2 fun x hx => by
          rcases List.mem_cons.mp (h x (List.mem_cons_of_mem _ hx)) with e | e
          · have := ht1 x hx; omega
          · exact e
        refine ⟨2 * n + 1, by omega, ?_⟩
        rw [maskL, if_pos (by omega), show (2 * n + 1) / 2 = n by omega, h2]
    · obtain ⟨n, h1, h2⟩ := mask_all r hp2 t ht fun x hx => by
        rcases List.mem_cons.mp (h x hx) with e | e
        · exfalso
          cases t with
          | nil => cases hx
          | cons b t =>
            have hb : b ≠ a := fun k => z (by rw [k]; rfl)
            have hb2 : b ∈ r := by
              rcases List.mem_cons.mp (h b List.mem_cons_self) with k | k
              · exact absurd k hb
              · exact k
            have := hp1 b hb2
            rcases List.mem_cons.mp hx with k | k
            · omega
            · have := (List.pairwise_cons.mp ht).1 x k
              omega
        · exact e
      refine ⟨2 * n, by omega, ?_⟩
      rw [maskL, if_neg (by omega), show 2 * n / 2 = n by omega, h2]
def gapsM : List Int → List Int
  | a :: b :: r => (b - a) :: gapsM (b :: r)
  | _ => []
theorem gaps_zip (F : D → D) (hF : ∀ a b : Int, F (.tup [.int a, .int b]) = .int (b - a)) : ∀ ns : List Int, (zipD (ns.map D.int) ((ns.drop 1).map D.int)).map F = (gapsM ns).map D.int
  | [] => rfl
  | [a] => rfl
  | a :: b :: r => by
    have ih := gaps_zip F hF (b :: r)
    show F (.tup [.int a, .int b]) :: (zipD ((b :: r).map D.int) (((b :: r).drop 1).map D.int)).map F = .int (b - a) :: (gapsM (b :: r)).map D.int
    rw [ih, hF]
theorem gaps_len : ∀ ns : List Int, (gapsM ns).length ≤ ns.length
  | [] => Nat.le_refl _
  | [a] => Nat.zero_le _
  | a :: b :: r => by
    have := gaps_len (b :: r)
    rw [gapsM, List.length_cons, List.length_cons]
    omega
theorem gaps_step {s : Int} : ∀ ns : List Int, stepB s ns = true ↔ ∀ g ∈ gapsM ns, g = s
  | [] => ⟨(fun _ g h => by cases h), fun _ => rfl⟩
  | [a] => ⟨(fun _ g h => by cases h), fun _ => rfl⟩
  | a :: b :: r => by
    have ih := gaps_step (s := s) (b :: r)
    rw [stepB, gapsM, Bool.and_eq_true, decide_eq_true_eq, ih]
    constructor
    · rintro ⟨h1, h2⟩ g hg
      rcases List.mem_cons.mp hg with e | hg
      · rw [e, h1]; omega
      · exact h2 g hg
    · intro h
      have := h (b - a) List.mem_cons_self
      exact ⟨by omega, fun g hg => h g (List.mem_cons_of_mem _ hg)⟩
def evB (ns : List Int) : Bool := decide (gapsM ns = (List.replicate (gapsM ns).length ((gapsM ns).take 1)).flatten)
theorem rep_flat {α : Type} (g : α) : ∀ n : Nat, (List.replicate n [g]).flatten = List.replicate n g
  | 0 => rfl
  | n + 1 => by rw [List.replicate_succ, List.flatten_cons, rep_flat g n, List.replicate_succ]; rfl
theorem evB_iff {ns : List Int} (hp : ns.Pairwise (· < ·)) : evB ns = true ↔ ∃ s, 1 ≤ s ∧ stepB s ns = true := by
  unfold evB
  rw [decide_eq_true_eq]
  match ns, hp with
  | [], _ => exact ⟨fun _ => ⟨1, by decide, rfl⟩, fun _ => rfl⟩
  | [a], _ => exact ⟨fun _ => ⟨1, by decide, rfl⟩, fun _ => rfl⟩
  | a :: b :: r, hp =>
    have hab := (List.pairwise_cons.mp hp).1 b List.mem_cons_self
    have e : (gapsM (a :: b :: r)).take 1 = [b - a] := rfl
    rw [e, rep_flat, List.eq_replicate_iff]
    constructor
    · rintro ⟨_, h⟩
      exact ⟨b - a, by omega, (gaps_step _).mpr h⟩
    · rintro ⟨s, h1, h2⟩
      have h3 := (gaps_step _).mp h2
      have h4 : b - a = s := h3 (b - a) (by rw [gapsM]; exact List.mem_cons_self)
      exact ⟨rfl, fun g hg => by rw [h4]; exact h3 g hg⟩
theorem row_of_mask {a : Int} {r : List Int} (hp : (a :: r).Pairwise (· < ·)) {n : Nat} (h : evB (a :: maskL r n) = true) : RowOf (a :: r) (a :: maskL r n) := by
  have hs : (a :: maskL r n).Sublist (a :: r) := (mask_sublist r n).cons₂ a
  exact ⟨⟨a, r, maskL r n, rfl, rfl⟩, (evB_iff (hp.sublist hs)).mp h, fun x hx => hs.subset hx⟩
theorem mask_of_row {a : Int} {r row : List Int} (hp : (a :: r).Pairwise (· < ·)) (h : RowOf (a :: r) row) : ∃ n, n < 2 ^ r.length ∧ row = a :: maskL r n ∧ evB row = true := by
  have hlt := h.lt
  have hst := h.st
  obtain ⟨a', r', t, e1, e2⟩ := h.hd
  cases e1
  subst e2
  obtain ⟨n, h1, h2⟩ := mask_all r (List.pairwise_cons.mp hp).2 t (List.pairwise_cons.mp hlt).2 fun x hx => by
    rcases List.mem_cons.mp (h.sub x (List.mem_cons_of_mem _ hx)) with e | e
    · have := (List.pairwise_cons.mp hlt).1 x hx; omega
    · exact e
  exact ⟨n, h1, by rw [h2], (evB_iff hlt).mpr hst⟩
theorem few_of_masks {a : Int} {r : List Int} (hp : (a :: r).Pairwise (· < ·)) {k : Nat} (h1 : Splits (a :: r) k) (h2 : ∀ n, n < 2 ^ r.length → evB (a :: maskL r n) = true → ∀ j, Splits (outOf (a :: maskL r n) (a :: r)) j → k ≤ j + 1) : Few (a :: r) k := by
  refine ⟨h1, fun j hj => ?_⟩
  cases hj with
  | row hr hs =>
    obtain ⟨n, e1, e2, e3⟩ := mask_of_row hp hr
    subst e2
    exact h2 n e1 e3 _ hs
theorem best_half {l : Int} {ns : List Int} {best : List Spn} (b : BestOk l ns best) (hp : ns.Pairwise (· < ·)) : best.length ≤ (ns.length + 1) / 2 := b.few.2 _ (splits_half hp)
theorem best_even {l : Int} {ns : List Int} {best : List Spn} (b : BestOk l ns best) (hp : ns.Pairwise (· < ·)) (he : evB ns = true) : best.length = if ns = [] then 0 else 1 := by
  by_cases z : ns = []
  · rw [if_pos z]
    subst z
    exact b.few.uniq few_nil
  · rw [if_neg z]
    obtain ⟨s, h1, h2⟩ := (evB_iff hp).mp he
    have h3 := b.few.2 _ (splits_one z h1 h2)
    have h4 := splits_pos b.few.1 z
    omega
/-- the places that the told cuts take -/
theorem best_spots {l : Int} (h0 : 0 ≤ l) : ∀ {best : List Spn}, (∀ r ∈ best, SpanIn r l) → ((best.map cutOfM).flatMap fun c => spanL (spanM c l)) = best.flatMap spanL
  | [], _ => rfl
  | r :: best, h => by
    rw [List.map_cons, List.flatMap_cons, List.flatMap_cons, best_spots h0 fun x hx => h x (List.mem_cons_of_mem _ hx), span_cutOf h0 (h r List.mem_cons_self)]
end Gd

namespace Gd
open PySem PySem.Spec PyProof.Rows L2
/-! ### lists of lists of whole numbers: sorted, in, index -/
abbrev encN (ns : List Int) : PyData := .list (ns.map PyData.int)
abbrev leN : List Int → List Int → Bool := PySem.W.dataLe false encN
abbrev leZ : List Int × V → List Int × V → Bool := PySem.W.dataLe false fun z : List Int × V => encN z.1
abbrev rSortLL : List V → Hp → VK → Prop := fun vs H Q => ∃ (a : Addr) (zs : List (List Int × V)), vs = [V.ref a] ∧ H a = some (.lst (zs.map (·.2))) ∧ (∀ z ∈ zs, ∃ b, z.2 = V.ref b ∧ H b = some (.lst (z.1.map V.int))) ∧ ∀ p, H p = none → Q (.ref p) (upd H p (.lst ((zs.mergeSort leZ).map (·.2))))
theorem each_vals : ∀ {zs : List (List Int × V)} {its : List Value}, Vals (zs.map (·.2)) its → PySem.W.EachIs (fun v (z : List Int × V) => RelV z.2 v) its zs
  | [], _, .nil => .nil
  | _ :: _, _, .cons r t => .cons r (each_vals t)
theorem vals_each : ∀ {zs : List (List Int × V)} {its : List Value}, PySem.W.EachIs (fun v (z : List Int × V) => RelV z.2 v) its zs → Vals (zs.map (·.2)) its
  | [], _, .nil => .nil
  | _ :: _, _, .cons r t => .cons r (vals_each t)
theorem enc_depth (ns : List Int) : (encN ns).depth ≤ 1 := by
  show PyData.depth (.list (ns.map PyData.int)) ≤ 1
  rw [PyData.depth, PySem.W.depth_ints]
  exact Nat.le_refl _
theorem reads_ints {h : Heap} : ∀ {vs : List Value} {ns : List Int}, IntsAre vs ns → ∃ as, ReadsAll h vs (ns.map PyData.int) as
  | _, _, .nil => ⟨_, .nil⟩
  | _, _, .cons n t H => by
    obtain ⟨as, r⟩ := reads_ints (h := h) H
    exact ⟨_, .cons (.int n t) r⟩
theorem cr_sortLL {X : Cx} (hu : X.A.units + 64 < cLine) : CallR X (.builtin "sorted") rSortLL := by
  intro pins s σ H vs us Q I r h
  obtain ⟨a, zs, rfl, ha, hb, q⟩ := h
  obtain ⟨its, rv, hl, hz⟩ := I.list (xs := zs.map (·.2)) (.inl (.inl ha))
  rw [Vals.ref1 r]
  have e := each_vals rv
  have er : PySem.W.EachIs (fun v (z : List Int × V) => ∃ as, Reads s.heap v (encN z.1) as) its zs := (PySem.W.each_mem e).mono fun v z ⟨h1, h2⟩ => by
    obtain ⟨b, e1, e2⟩ := hb z h2
    rw [e1] at h1
    obtain rfl : v = Value.ref b := h1
    obtain ⟨its2, rv2, hl2, _⟩ := I.list (xs := z.1.map V.int) (.inl (.inl e2))
    obtain ⟨as, rr⟩ := reads_ints (h := s.heap) rv2.ints
    obtain ⟨o, ho, hc, n, hd⟩ := hl2.isList
    exact ⟨_, .list ho hc hd (by simpa using rr)⟩
  have hlen : zs.length ≤ sizeLine := by rw [List.length_map] at hz; exact hz
  refine PySem.W.sorted_data (R := fun v (z : List Int × V) => RelV z.2 v) (enc := fun z : List Int × V => encN z.1) hl.isList e er (PySem.W.AllAlike.of fun b b' => ?_) (PySem.W.Sortable.others fun b => ⟨(fun z => by cases z), (fun xs z => by cases z)⟩) hlen (fun b _ => ?_) fun out h1 h2 => ?_
  · show PySem.W.alike (.list _) (.list _) = true
    rw [PySem.W.alike]
    exact PySem.W.alike_ints _ _
  · have := enc_depth b.1
    show X.A.units + 2 + (encN b.1).depth < cLine
    omega
  · obtain ⟨ep, he'⟩ := PyProof.Rows.sortedAll_at s.heap its out.toArray
    have hlen2 : ((zs.mergeSort leZ).map (·.2)).length ≤ sizeLine := by
      rw [List.length_map, List.length_mergeSort]
      exact hlen
    exact ⟨.ref _, upd H (s.heap.objs.size + 1) (.lst ((zs.mergeSort leZ).map (·.2))), I.laid (t' := s.toks) (fun _ _ => PyProof.Rows.sortedAll_old) (Nat.le_succ _) ⟨hlen2, out, ep, vals_each h2, he'⟩, rfl, q _ (I.hok.fresh (Nat.le_succ _))⟩
theorem reps_pairs {ok : Addr → Prop} {H : Hp} : ∀ {L : List (List Int × V)}, (∀ z ∈ L, Rep ok H (intsD z.1) z.2) → Reps ok H (L.map fun z => intsD z.1) (L.map (·.2))
  | [], _ => .nil
  | z :: L, h => .cons (h z List.mem_cons_self) (reps_pairs fun x hx => h x (List.mem_cons_of_mem _ hx))
theorem reps_zip {ok : Addr → Prop} {H : Hp} : ∀ {nss : List (List Int)} {us : List V}, Reps ok H (nss.map fun ns => intsD ns) us → ∃ zs : List (List Int × V), zs.map (·.1) = nss ∧ zs.map (·.2) = us ∧ ∀ z ∈ zs, Rep ok H (intsD z.1) z.2
  | [], _, .nil => ⟨[], rfl, rfl, fun z h => absurd h List.not_mem_nil⟩
  | ns :: nss, _, .cons (v := v) r t => by
    obtain ⟨zs, h1, h2, h3⟩ := reps_zip t
    refine ⟨(ns, v) :: zs, by rw [List.map_cons, h1], by rw [List.map_cons, h2], fun z hz => ?_⟩
    rcases List.mem_cons.mp hz with e | hz
    · rw [e]; exact r
    · exact h3 z hz
abbrev listsD (nss : List (List Int)) : D := .lst (nss.map fun ns => intsD ns)
section
variable {m : M} {Q : D → M → Prop} {K : PySem.W.Frag}
theorem gc_sortLL {nss : List (List Int)} (q : Q (listsD (nss.mergeSort leN)) m) : gc rSortLL [listsD nss] m Q := fun H vs s r Q' k => by
  cases r with | cons r1 r2 =>
  cases r2
  obtain ⟨a, us, rfl, oa, ea, ra⟩ := r1.lst_inv
  obtain ⟨zs, h1, h2, h3⟩ := reps_zip ra
  subst h1 h2
  refine ⟨a, zs, rfl, ea, fun z hz => ?_, fun p np => ?_⟩
  · obtain ⟨b, xs, e, _, eb, rb⟩ := (h3 z hz).lst_inv
    have ex := Reps.ints_inv rb
    subst ex
    exact ⟨b, e, eb⟩
  · have e : ((zs.map (·.1)).mergeSort leN) = (zs.mergeSort leZ).map (·.1) := (PySem.W.sort_maps (r := leZ) (s := leN) (·.1) fun a _ b _ => rfl).symm
    have rr : Reps (off m) H (((zs.map (·.1)).mergeSort leN).map fun ns => intsD ns) ((zs.mergeSort leZ).map (·.2)) := by
      rw [e, List.map_map]
      exact reps_pairs fun z hz => h3 z ((List.mergeSort_perm zs leZ).mem_iff.mp hz)
    refine k _ _ (listsD _) m (.fresh np) (.lst (s.off_new np) upd_same ?_) (s.fresh np) q
    exact rr.step (.fresh np)
theorem kNinD {X : Cx} (K : PySem.W.Frag) (hu : X.A.units + 65 < cLine) (h : X.K = K := by rfl) : OpR X (compareOp .NotIn) (rNotInD K) := by subst h; exact op_notInD hu
theorem kIndexD {X : Cx} (K : PySem.W.Frag) (hu : X.A.units + 65 < cLine) (h : X.K = K := by rfl) : MtR X "list.index" (rIndexD K) := by subst h; exact mt_indexD hu
theorem toPys_lists : ∀ nss : List (List Int), toPys (nss.map fun ns => intsD ns) = nss.map fun ns => toPy (intsD ns)
  | [] => rfl
  | ns :: nss => by
    rw [List.map_cons, List.map_cons, toPys, toPys_lists nss]
theorem shLists {n : Nat} (nss : List (List Int)) : Sh (n + 2) (listsD nss) := .lst (.of_all fun d hd => by
  obtain ⟨ns, _, e⟩ := List.mem_map.mp hd
  rw [← e]
  exact shInts ns)
theorem eqv_ints (a b : List Int) : PyData.eqv (toPy (intsD a)) (toPy (intsD b)) = decide (a = b) := deq_ints a b
theorem any_lists (ns : List Int) : ∀ nss : List (List Int), ((nss.map fun ns => toPy (intsD ns)).any fun z => PyData.eqv z (toPy (intsD ns))) = decide (ns ∈ nss)
  | [] => by simp
  | a :: nss => by
    rw [List.map_cons, List.any_cons, any_lists ns nss, eqv_ints]
    by_cases z : a = ns
    · simp [z]
    · have z2 : ¬ ns = a := fun e => z e.symm
      simp [z, z2]
theorem g2_ninLL {ns : List Int} {nss : List (List Int)} (q : Q (.bl (!decide (ns ∈ nss))) m) : g2 (rNotInD K) (intsD ns) (listsD nss) m Q := fun H vx vy s r1 r2 Q' k => by
  have h1 : Sh 64 (intsD ns) := shInts ns
  have h2 : Sh 64 (listsD nss) := shLists nss
  refine ⟨toPy (intsD ns), nss.map fun ns => toPy (intsD ns), h1.dp r1, ?_, h1.shaped, ?_, ?_⟩
  · rw [← toPys_lists]; exact h2.dp r2
  · rw [← toPys_lists]; exact h2.shaped
  · rw [any_lists]
    exact k _ H (.bl _) m .refl (.bl _) s q
end
end Gd

namespace Gd
open PySem PySem.Spec PyProof.Rows L2
theorem un65 {k : Nat} {A : Around} (r : Room k A) : A.units + 65 < cLine := by have := r.un; omega
section
variable {xc : Xc} {d : Dl} {m : M} {Q : D → M → Prop} {ta te : TE} {K : PySem.W.Frag}
theorem toPys_at (nss : List (List Int)) (j : Nat) : (nss.map fun ns => toPy (intsD ns))[j]? = (nss[j]?).map fun ns => toPy (intsD ns) := List.getElem?_map ..
/-- xs.index(ns) -/
theorem ge_indexLL (h : ge xc ta d m fun o m1 => ∃ nss : List (List Int), o = listsD nss ∧ ge xc te d m1 fun y m2 => ∃ (j : Nat) (ns : List Int), y = intsD ns ∧ nss[j]? = some ns ∧ (∀ k : Nat, k < j → nss[k]? ≠ some ns) ∧ Q (.int (j : Nat)) m2) :
    ge xc (tBM K "list" (rIndexD K) ta (tCons te tNil)) d m Q := fun sg H s e Q' k =>
  h sg H s e _ fun vo H1 o m1 s1 r1 t1 ⟨nss, ho, q⟩ => by
    subst ho
    obtain ⟨a, us, rfl, oa, ea, ra⟩ := r1.lst_inv
    refine ⟨.inl ⟨rfl, us, .inl (.inl ea)⟩, q sg H1 t1 (e.step s1) _ fun vy H2 y m2 s2 r2 t2 ⟨j, ns, hy, hj, hno, q2⟩ => ?_⟩
    subst hy
    have r1' := r1.step s2
    have h1 : Sh 64 (intsD ns) := shInts ns
    have h2 : Sh 64 (listsD nss) := shLists nss
    refine ⟨a, vy, toPy (intsD ns), nss.map fun ns => toPy (intsD ns), j, toPy (intsD ns), rfl, rfl, ?_, h1.dp r2, ?_, h1.shaped, ?_, ?_, fun n z hn hz => ?_, k _ H2 _ m2 (s1.trans s2) (.int _) t2 q2⟩
    · rw [← toPys_lists]; exact h2.dp r1'
    · rw [← toPys_lists]; exact h2.shaped
    · rw [toPys_at, hj]; rfl
    · rw [eqv_ints, decide_eq_true rfl]
    · rw [toPys_at] at hz
      obtain ⟨ms, hm, e3⟩ := Option.map_eq_some_iff.mp hz
      subst e3
      rw [eqv_ints]
      exact decide_eq_false fun w => hno n hn (by rw [hm, w])
end
/-! ### all lists of places -/
def oneM (f by' : Int) (n : Nat) : List (List Int) := (List.range n).map fun k : Nat => spanL (f, by', ((k + 2 : Nat) : Int))
def firstM (l s f : Nat) : List (List Int) := oneM f s ((l - 1 - f) / s) ++ oneM f (0 - (s : Int)) (f / s)
def stepR (l s : Nat) : List (List Int) := (List.range l).flatMap fun f => firstM l s f
def rawM (l : Nat) : List (List Int) := ([] :: (List.range l).map fun p : Nat => [(p : Int)]) ++ (List.range (l - 1)).flatMap fun s => stepR l (s + 1)
def listsM (l : Nat) : List (List Int) := (rawM l).mergeSort leN
def cntL (l : Nat) : Nat := 1 + l + ((List.range (l - 1)).map fun s => ((List.range l).map fun f => (l - 1 - f) / (s + 1) + f / (s + 1)).sum).sum
def howM (l : Nat) : Nat := 1 + l + ((List.range (l - 1)).map fun s => 2 * ((List.range (l - (s + 1))).map fun f => (l - 1 - f) / (s + 1)).sum).sum
theorem cnt_how : ∀ l, l < 31 → cntL l = howM l := by decide +kernel
theorem cnt_top : ∀ l, l < 31 → cntL l ≤ 5000 := by decide +kernel
theorem raw_len (l : Nat) : (rawM l).length = cntL l := by
  unfold rawM cntL
  rw [List.length_append, List.length_cons, List.length_map, List.length_range, List.length_flatMap]
  have e : ((List.range (l - 1)).map fun s => (stepR l (s + 1)).length) = (List.range (l - 1)).map fun s => ((List.range l).map fun f => (l - 1 - f) / (s + 1) + f / (s + 1)).sum := by
    refine List.map_congr_left fun s _ => ?_
    unfold stepR
    rw [List.length_flatMap]
    congr 1
    refine List.map_congr_left fun f _ => ?_
    unfold firstM oneM
    rw [List.length_append, List.length_map, List.length_map, List.length_range, List.length_range]
  rw [e]
  omega
theorem lists_len (l : Nat) : (listsM l).length = cntL l := by
  unfold listsM
  rw [List.length_mergeSort, raw_len]
theorem lists_mem {l : Nat} {ns : List Int} : ns ∈ listsM l ↔ ns ∈ rawM l := (List.mergeSort_perm _ _).mem_iff
/-- places by one step, of either sign, are among them -/
theorem raw_span {l : Nat} {r : Spn} (h : ∀ x ∈ spanL r, 0 ≤ x ∧ x < (l : Int)) (hs : r.2.1 ≠ 0) : spanL r ∈ rawM l := by
  obtain ⟨a, s, n⟩ := r
  have hs : s ≠ 0 := hs
  unfold rawM
  have hn : spanL (a, s, n) = spanL (a, s, (n.toNat : Int)) := by
    unfold spanL
    show (List.range n.toNat).map _ = (List.range ((n.toNat : Int)).toNat).map _
    rw [Int.toNat_natCast]
  obtain ⟨N, hN⟩ : ∃ N, n.toNat = N := ⟨_, rfl⟩
  rw [hn, hN] at h ⊢
  clear hn hN
  have at' : ∀ k : Nat, k < N → 0 ≤ a + s * (k : Int) ∧ a + s * (k : Int) < (l : Int) := fun k hk => h _ (spanL_mem.mpr ⟨k, by show k < ((N : Int)).toNat; rw [Int.toNat_natCast]; exact hk, rfl⟩)
  match N, h, at' with
  | 0, _, _ => exact List.mem_append_left _ List.mem_cons_self
  | 1, _, at' =>
    have h0 := at' 0 (by decide)
    simp at h0
    refine List.mem_append_left _ (List.mem_cons_of_mem _ (List.mem_map.mpr ⟨a.toNat, List.mem_range.mpr (by omega), ?_⟩))
    rw [show ((1 : Nat) : Int) = ((0 + 1 : Nat) : Int) from rfl, spanL_cons]
    show [(a.toNat : Int)] = [a]
    rw [Int.toNat_of_nonneg h0.1]
  | N + 2, _, at' =>
    have h0 := at' 0 (by omega)
    simp at h0
    have hl := at' (N + 1) (by omega)
    refine List.mem_append_right _ (List.mem_flatMap.mpr ?_)
    by_cases z : 0 < s
    · have hb : (N + 1 : Nat) * s.toNat ≤ l - 1 - a.toNat := by
        have e : ((s.toNat : Nat) : Int) = s := Int.toNat_of_nonneg (by omega)
        have e2 : (((N + 1) * s.toNat : Nat) : Int) = s * ((N + 1 : Nat) : Int) := by rw [Int.natCast_mul, e, Int.mul_comm]
        omega
      have hsl : s.toNat ≤ l - 1 := by
        have : 1 * s.toNat ≤ (N + 1) * s.toNat := Nat.mul_le_mul_right _ (by omega)
        omega
      refine ⟨s.toNat - 1, List.mem_range.mpr (by omega), List.mem_flatMap.mpr ⟨a.toNat, List.mem_range.mpr (by omega), ?_⟩⟩
      rw [show s.toNat - 1 + 1 = s.toNat by omega]
      refine List.mem_append_left _ (List.mem_map.mpr ⟨N, List.mem_range.mpr ?_, ?_⟩)
      · exact (Nat.le_div_iff_mul_le (by omega)).mpr hb
      · rw [Int.toNat_of_nonneg h0.1, Int.toNat_of_nonneg (show 0 ≤ s by omega)]
    · have e : (((0 - s).toNat : Nat) : Int) = 0 - s := Int.toNat_of_nonneg (by omega)
      have hb : (N + 1 : Nat) * (0 - s).toNat ≤ a.toNat := by
        have e2 : (((N + 1) * (0 - s).toNat : Nat) : Int) = (0 - s) * ((N + 1 : Nat) : Int) := by rw [Int.natCast_mul, e, Int.mul_comm]
        have e3 : (0 - s) * ((N + 1 : Nat) : Int) = - (s * ((N + 1 : Nat) : Int)) := by rw [Int.sub_mul]; omega
        omega
      have hsl : (0 - s).toNat ≤ l - 1 := by
        have : 1 * (0 - s).toNat ≤ (N + 1) * (0 - s).toNat := Nat.mul_le_mul_right _ (by omega)
        omega
      refine ⟨(0 - s).toNat - 1, List.mem_range.mpr (by omega), List.mem_flatMap.mpr ⟨a.toNat, List.mem_range.mpr (by omega), ?_⟩⟩
      rw [show (0 - s).toNat - 1 + 1 = (0 - s).toNat by omega]
      refine List.mem_append_right _ (List.mem_map.mpr ⟨N, List.mem_range.mpr ?_, ?_⟩)
      · exact (Nat.le_div_iff_mul_le (by omega)).mpr hb
      · rw [Int.toNat_of_nonneg h0.1, e, show 0 - (0 - s) = s by omega]
theorem first_atL {x : List Int} : ∀ {nss : List (List Int)}, x ∈ nss → ∃ j : Nat, nss[j]? = some x ∧ ∀ k : Nat, k < j → nss[k]? ≠ some x
  | n :: nss, h => by
    by_cases z : n = x
    · exact ⟨0, by rw [z]; rfl, fun k hk => absurd hk (Nat.not_lt_zero _)⟩
    · obtain ⟨j, h1, h2⟩ := first_atL ((List.mem_cons.mp h).resolve_left fun w => z w.symm)
      refine ⟨j + 1, h1, fun k hk => ?_⟩
      cases k with
      | zero => exact fun w => z (Option.some.inj w)
      | succ k => exact h2 k (by omega)
end Gd
namespace Gd
open PySem PySem.Spec PyProof.Rows L2
/-! ### the law's rows -/
theorem span_take (a s : Int) (n : Int) (k : Nat) : (spanL (a, s, n)).take k = spanL (a, s, ((min k n.toNat : Nat) : Int)) := by
  unfold spanL
  show ((List.range n.toNat).map _).take k = (List.range (((min k n.toNat : Nat) : Int)).toNat).map _
  rw [Int.toNat_natCast, ← List.map_take, List.take_range]
theorem risen_ev {r : Spn} (hs : r.2.1 ≠ 0) {so : List Int} (hp : so.Perm (spanL r)) (hw : so.Pairwise (· ≤ ·)) : so.Pairwise (· < ·) ∧ evB so = true := by
  have hr : 1 ≤ (risenM r).2.1 := by
    unfold risenM
    split <;> (try show 1 ≤ _) <;> (try (show (1 : Int) ≤ 0 - r.2.1)) <;> omega
  have e : so = spanL (risenM r) := by
    refine perm_sorted (hp.trans ?_) hw ((spanL_rise hr).imp fun h => by omega)
    exact (List.perm_ext_iff_of_nodup (spanL_nodup hs) (pw_nodup (spanL_rise hr))).mpr fun x => (risen_mem (s := r) (x := x)).symm
  have hlt : so.Pairwise (· < ·) := by rw [e]; exact spanL_rise hr
  refine ⟨hlt, (evB_iff hlt).mpr ⟨(risenM r).2.1, hr, ?_⟩⟩
  rw [e]
  obtain ⟨a, s, n⟩ := risenM r
  have : spanL (a, s, n) = spanL (a, s, (n.toNat : Int)) := by
    unfold spanL
    show (List.range n.toNat).map _ = (List.range ((n.toNat : Int)).toNat).map _
    rw [Int.toNat_natCast]
  rw [this]
  exact stepB_spanL s n.toNat a
theorem evB_row {ns row : List Int} (hn : ns ≠ []) (hd : row.head? = ns.head?) (hw : row.Pairwise (· < ·)) (he : evB row = true) (hs : ∀ x ∈ row, x ∈ ns) : RowOf ns row := by
  cases ns with
  | nil => exact absurd rfl hn
  | cons a r =>
    cases row with
    | nil => cases hd
    | cons b t =>
      cases hd
      exact ⟨⟨a, r, t, rfl, rfl⟩, (evB_iff hw).mp he, hs⟩
theorem head_min {ns : List Int} {a : Int} (h : ns.Pairwise (· < ·)) (ha : a ∈ ns) (hm : ∀ x ∈ ns, a ≤ x) : ns.head? = some a := by
  cases ns with
  | nil => cases ha
  | cons b r =>
    rcases List.mem_cons.mp ha with e | e
    · rw [e]; rfl
    · have h1 := (List.pairwise_cons.mp h).1 a e
      have h2 := hm b List.mem_cons_self
      omega
theorem pw_head {a : Int} {r : List Int} (h : (a :: r).Pairwise (· < ·)) : ∀ x ∈ a :: r, a ≤ x := fun x hx => by
  rcases List.mem_cons.mp hx with e | e
  · omega
  · have := (List.pairwise_cons.mp h).1 x e; omega
/-- two rows that have no place in common are parted into two at most -/
theorem two_rows {ns p q : List Int} (hw : ns.Pairwise (· < ·)) (hp : p.Pairwise (· < ·)) (ep : evB p = true) (hq : q.Pairwise (· < ·)) (eq : evB q = true) (hm : ∀ x, x ∈ ns ↔ x ∈ p ∨ x ∈ q) (hd : ∀ x ∈ p, x ∉ q) : ∃ k, k ≤ 2 ∧ Splits ns k := by
  have main : ∀ p q : List Int, p.Pairwise (· < ·) → evB p = true → q.Pairwise (· < ·) → evB q = true → (∀ x, x ∈ ns ↔ x ∈ p ∨ x ∈ q) → (∀ x ∈ p, x ∉ q) → (∃ a, a ∈ p ∧ ∀ x ∈ ns, a ≤ x) → ∃ k, k ≤ 2 ∧ Splits ns k := by
    intro p q hp ep hq eq hm hd ⟨a, ha, hmin⟩
    have han : a ∈ ns := (hm a).mpr (.inl ha)
    have hne : ns ≠ [] := fun z => by rw [z] at han; cases han
    have h1 : RowOf ns p := evB_row hne (by rw [head_min hw han hmin, head_min hp ha fun x hx => hmin x ((hm x).mpr (.inl hx))]) hp ep fun x hx => (hm x).mpr (.inl hx)
    have e : outOf p ns = q := by
      refine perm_sorted ((List.perm_ext_iff_of_nodup (pw_nodup (out_pw hw)) (pw_nodup hq)).mpr fun x => ?_) ((out_pw hw).imp fun h => by omega) (hq.imp fun h => by omega)
      rw [show x ∈ outOf p ns ↔ x ∈ ns ∧ (!decide (x ∈ p)) = true from List.mem_filter, hm]
      constructor
      · rintro ⟨h | h, h2⟩
        · simp [h] at h2
        · exact h
      · intro h
        refine ⟨.inr h, ?_⟩
        have : x ∉ p := fun z => hd x z h
        simp [this]
    by_cases z : q = []
    · exact ⟨1, by decide, .row h1 (by rw [e, z]; exact .nil)⟩
    · obtain ⟨s, s1, s2⟩ := (evB_iff hq).mp eq
      exact ⟨2, by decide, .row h1 (by rw [e]; exact splits_one z s1 s2)⟩
  cases ns with
  | nil => exact ⟨0, by decide, .nil⟩
  | cons a r =>
    rcases (hm a).mp List.mem_cons_self with h | h
    · exact main p q hp ep hq eq hm hd ⟨a, h, pw_head hw⟩
    · exact main q p hq eq hp ep (fun x => by rw [hm, or_comm]) (fun x hx hx2 => hd x hx2 hx) ⟨a, h, pw_head hw⟩
end Gd

namespace Gd
open PySem PySem.Spec PyProof.Rows L2
/-! ### len(set(xs)), equal ones too -/
section
variable {X : Cx}
def rLenSet (w : World) : List V → Hp → VK → Prop := fun vs H Q => ∃ (a : Addr) (S : Int → Bool) (n : Nat), vs = [V.ref a] ∧ H a = some (SetO w a S n) ∧ n < 4000 ∧ Q (.int (n : Int)) H
theorem cr_lenSet : CallR X (.builtin "len") (rLenSet X.w) := by
  intro pins s σ H vs us Q I r h
  obtain ⟨a, S, n, rfl, ha, hl, q⟩ := h
  rw [Vals.ref1 r]
  obtain ⟨o, es, ep, t, ho, hex, hd, _, _, _, hb, hf, hn, _⟩ := setO_get I ha
  refine call_len_set ho hex hd hf (by rw [hn]; omega) ⟨.int n, H, I.tok _, ⟨_, by rw [hn]⟩, q⟩
theorem kLenSet (w : World) (hw : X.w = w := by rfl) : CallR X (.builtin "len") (rLenSet w) := by subst hw; exact cr_lenSet
end
theorem nd_len : ∀ {ms ks : List Int}, ms.Nodup → (∀ x ∈ ms, x ∈ ks) → ms.length ≤ ks.length
  | [], _, _, _ => Nat.zero_le _
  | x :: ms, ks, hd, h => by
    have hx := h x List.mem_cons_self
    have ih := nd_len (ks := ks.erase x) (List.nodup_cons.mp hd).2 fun y hy => (List.mem_erase_of_ne (fun e => (List.nodup_cons.mp hd).1 (by rw [← e]; exact hy))).mpr (h y (List.mem_cons_of_mem _ hy))
    rw [List.length_erase_of_mem hx] at ih
    have := List.length_pos_of_mem hx
    rw [List.length_cons]
    omega
theorem ge_lenSet {xc : Xc} {d : Dl} {m : M} {Q : D → M → Prop} {ta : TE} {K : PySem.W.Frag} {w : World} (h : ge xc ta d m fun x m1 => ∃ ks : List Int, x = intsD ks ∧ ks.length ≤ 3000 ∧ ∀ ms : List Int, ms.Nodup → (∀ x, x ∈ ms ↔ x ∈ ks) → Q (.int (ms.length : Nat)) m1) : ge xc (tCB (rLenSet w) (tCons (tCB (rSetL K w) (tCons ta tNil)) tNil)) d m Q := fun sg H s e Q' k => by
  refine h sg H s e _ fun v H1 x m1 s1 r1 t1 ⟨ks, hx, hl, q⟩ => ?_
  subst hx
  obtain ⟨a, xs, rfl, _, ea, ra⟩ := r1.lst_inv
  have ex := Reps.ints_inv ra
  subst ex
  refine ⟨a, ks, rfl, .inl (.inl ea), by omega, fun p n ⟨ms, nd, hn, hm⟩ np => ?_⟩
  have hle := nd_len nd fun x hx => (hm x).mp hx
  refine ⟨p, _, n, rfl, upd_same, by omega, ?_⟩
  subst hn
  exact k _ _ (.int _) m1 (s1.trans (.fresh np)) (.int _) (t1.fresh np) (q ms nd hm)
end Gd

namespace Gd
open PySem PySem.Spec PyProof.Rows L2
local macro_rules | `(tactic| walk_at "gcall") => `(tactic| fail "gcall")
local macro_rules | `(tactic| walk_at "gs1") => `(tactic| first
  | with_reducible refine gs_seq ?_ | with_reducible refine gs_if ?_ | with_reducible refine gs_asg ?_ | with_reducible refine gs_ret ?_ | with_reducible refine gs_drop ?_ | with_reducible refine gs_next ?_
  | ((with_reducible apply gs_aug); (focus exact rfl)) | with_reducible refine gs_for ?_ | with_reducible refine gs_par ?_ | with_reducible refine gs_par3 ?_ | with_reducible refine gs_retN ?_ | with_reducible refine gs_raise ?_)
local macro_rules | `(tactic| walk_at "gg1") => `(tactic| first
  | ((with_reducible refine gg_name ?_); (try dsimp only [List.set_cons_zero, List.set_cons_succ])) | ((with_reducible refine gg_tup ?hn ?_); (case hn => exact rfl)) | ((with_reducible refine gg_unl ?hn ?_); (case hn => exact rfl)) | with_reducible refine ggs_cons ?_ | with_reducible refine ggs_nil ?_)
local macro_rules | `(tactic| walk_at "gt1") => `(tactic| first
  | with_reducible refine gt_test ?_ | with_reducible refine gt_B ?_ | with_reducible refine gt_not ?_ | with_reducible refine gt_and ?_ | with_reducible refine gt_or ?_ | with_reducible refine gt_yes ?_)
local macro_rules | `(tactic| walk_at "ge1") => `(tactic| first
  | ((with_reducible apply ge_var); (focus exact rfl)) | with_reducible refine ge_int ?_ | with_reducible refine ge_non ?_ | with_reducible refine ge_bl ?_ | with_reducible refine ge_ty ?_ | with_reducible refine ge_ref ?_ | with_reducible refine ge_str ?_
  | with_reducible refine ge_dnew ?_ | with_reducible refine ge_op ?_ | with_reducible refine ge_un ?_ | with_reducible refine ge_call0 ?_ | with_reducible refine ge_callC0 ?_ | with_reducible refine ge_cb ?_ | with_reducible refine ge_tup ?_ | with_reducible refine ge_lst ?_ | with_reducible refine ge_lstC ?_
  | with_reducible refine ge_appH ?_ | with_reducible refine ge_if ?_ | ((with_reducible refine ge_lc ?hg ?_); (case hg => first | exact gw_name (by decide) | exact gw_tup2 (by decide) (by decide) | exact gw_tup3 (by decide) (by decide) (by decide))) | with_reducible refine ge_sl ?_ | with_reducible refine ge_rev ?_ | with_reducible refine ge_listRg ?_ | with_reducible refine ge_callN ?_ | with_reducible refine ge_andV ?_ | with_reducible refine ge_orV ?_ | with_reducible refine ge_notV ?_ | with_reducible refine ge_chain ?_)
local macro_rules | `(tactic| walk_at "ga1") => `(tactic| first | with_reducible refine ga_cons ?_ | with_reducible refine ga_nil ?_)
local macro_rules | `(tactic| walk_at "gop") => `(tactic| first
  | with_reducible refine g2_addI ?_ | with_reducible refine g2_int ?_ | with_reducible refine g2_bl ?_ | with_reducible refine g2_isN ?_ | with_reducible refine g2_ip ?_ | with_reducible refine g2_notN ?_
  | ((with_reducible refine g2_eq ?ha ?hb ?_); (case ha => walk_at "sh"); (case hb => walk_at "sh")) | ((with_reducible refine g2_ne ?ha ?hb ?_); (case ha => walk_at "sh"); (case hb => walk_at "sh"))
  | ((with_reducible apply g2_ixPT); (focus exact rfl)) | ((with_reducible apply g2_ixPL); (focus exact rfl)) | ((with_reducible apply g2_ixPH); (focus exact rfl))
  | with_reducible refine g1_int ?_ | with_reducible refine g2_isBl ?_ | with_reducible refine g2_notBl ?_ | with_reducible refine g2_inI ?_ | with_reducible refine g2_ninI ?_ | ((with_reducible apply g2_inT); (focus first | exact rfl | exact flat_oi _); (focus exact rfl)) | ((with_reducible apply g2_ninT); (focus first | exact rfl | exact flat_oi _); (focus exact rfl))
  | with_reducible refine gc_max2 ?_ | with_reducible refine gc_min2 ?_ | with_reducible refine gc_lenI ?_ | with_reducible refine gc_lenC ?_ | with_reducible refine gc_lenL ?_ | with_reducible refine gc_lenH ?_ | with_reducible refine gc_lenT ?_ | with_reducible refine gc_lenS ?_ | with_reducible refine gc_abs ?_ | with_reducible refine gc_listL ?_ | with_reducible refine gc_listT ?_ | with_reducible refine gc_tupL ?_ | with_reducible refine gc_tupT ?_ | with_reducible refine gc_tupH ?_ | with_reducible refine gc_all ?_ | with_reducible refine gc_intB ?_
  | ((with_reducible apply gc_isi); (focus exact rfl); (focus first | exact kb_int_int | exact kb_int_bool | exact kb_bool_int | exact kb_bool_bool | exact kb_tuple_tuple | exact kb_list_list | exact kb_NoneType_int | exact kb_tuple_int | exact kb_list_int | exact kb_str_str))
  | ((with_reducible refine g2_mulI ?hc ?_); (case hc => walk_at "cmul")) | ((with_reducible refine g2_fdiv ?hc ?_); (case hc => walk_at "cdiv")) | ((with_reducible refine g2_mod ?hc ?_); (case hc => first | decide | omega)) | ((with_reducible refine g2_pow ?hc ?_); (case hc => exact ⟨by decide, by decide, by decide⟩)))
local macro_rules | `(tactic| walk_at "cmul") => `(tactic| first | exact .inl ⟨by omega, by omega⟩ | exact .inr ⟨by omega, by omega⟩)
local macro_rules | `(tactic| walk_at "cdiv") => `(tactic| first | exact ⟨by decide, by decide⟩ | exact ⟨by omega, by omega⟩)
local macro_rules | `(tactic| walk_at "sh") => `(tactic| (repeat (first | assumption | exact Sh.le (by assumption) (by decide) | exact Sh.int _ _ | exact Sh.non _ | exact Sh.bl _ _ | exact shO _ _ | exact shStr (strOk_of _) | exact shRef _ | exact shCut _ | exact shSpan _ | exact shInts _ | exact shChain _ | exact Shs.ints _ | exact Shs.nil _ | apply Sh.tup | apply Sh.lst | apply Shs.cons)))
local macro_rules | `(tactic| walk_at "glog") => `(tactic| first
  | with_reducible refine ex_bl ?_ | ((with_reducible refine ex_par3 ?_); (try dsimp only [List.set_cons_zero, List.set_cons_succ])) | ((with_reducible refine ex_par2 ?_); (try dsimp only [List.set_cons_zero, List.set_cons_succ])) | with_reducible refine ex_int ?_ | with_reducible refine go_none ?_ | with_reducible refine go_some ?_ | with_reducible refine gsl_I ?_ | with_reducible refine gsl_C ?_ | with_reducible refine gsl_L ?_ | with_reducible refine gsl_A ?_ | with_reducible refine ex_cell ?_ | ((with_reducible refine ex_cell2 ?hs ?_); (case hs => first | decide | (simp only [List.length_append, List.length_cons, List.length_nil, List.length_map]; omega) | omega)) | with_reducible refine ex_tup ?_ | with_reducible refine ex_lst ?_ | with_reducible refine ex_L1 ?_ | with_reducible refine ex_L2 ?_ | ((with_reducible refine sz_and ?hs ?_); (case hs => first | decide | (simp only [List.length_cons, List.length_nil, List.length_map]; omega) | omega))
  | with_reducible refine ite_not ?_ | ((with_reducible refine ite_yes ?hx ?_); (case hx => omega)) | ((with_reducible refine ite_no ?hx ?_); (case hx => omega))
  | ((with_reducible refine ite_deqY ?hx ?_); (case hx => first | omega | (with_reducible rfl) | (simp only [List.length_cons, List.length_nil]; omega))) | ((with_reducible refine ite_deqN ?hx ?_); (case hx => first | omega | (simp only [List.length_cons, List.length_nil]; omega)))
  | ((fail_if_success (with_reducible refine ite_dec ?_ ?_)); (fail_if_success (with_reducible refine ite_deq ?_ ?_)); first | ((with_reducible refine ite_t ?hx ?_); (case hx => walk_at "rb")) | ((with_reducible refine ite_f ?hx ?_); (case hx => walk_at "rb"))))
local macro_rules | `(tactic| walk_at "g1") => `(tactic| first
  | ((with_reducible show ge _ _ _ _ _); walk_at "ge1") | ((with_reducible show ga _ _ _ _ _); walk_at "ga1") | ((with_reducible show gs _ _ _ _ _); walk_at "gs1") | ((with_reducible show gt _ _ _ _ _); walk_at "gt1")
  | ((with_reducible show g2 _ _ _ _ _); walk_at "gop") | ((with_reducible show gc _ _ _ _); walk_at "gop") | ((with_reducible show g1 _ _ _ _); with_reducible refine g1_int ?_) | ((with_reducible show gi _ _ _ _ _); first | with_reducible refine gi_tup ?_ | with_reducible refine gi_list ?_ | with_reducible refine gi_range1 ?_ | with_reducible refine gi_range2 ?_ | with_reducible refine gi_enum ?_ | with_reducible refine gi_zip ?_) | walk_at "gg1" | walk_at "glog" | walk_at "gcall")
local macro_rules | `(tactic| walk_at "g") => `(tactic| repeat walk_at "g1")
local macro_rules | `(tactic| walk_at "gd") => `(tactic| (walk_at "g"; try (refine ite_dec (fun hd => ?_) (fun hd => ?_) <;> walk_at "gd")))
local macro_rules | `(tactic| walk_at "arg") => `(tactic| first | assumption | exact .inr rfl | exact .inl (Sh.int _ _) | exact .inl (Sh.non _) | exact .inl (Sh.bl _ _) | exact .inl (shO _ _) | exact .inl (shCut _) | exact .inl (shSpan _) | exact .inl (shInts _) | exact .inl (shChain _) | exact .inl (by walk_at "sh"))
local macro_rules | `(tactic| walk_at "gu") => `(tactic| repeat (first | walk_at "g1" | with_reducible refine gfor_cons ?_ | with_reducible refine gfor_nil ?_))
local macro_rules | `(tactic| walk_at "e1") => `(tactic| first
  | ((with_reducible show ge _ _ _ _ _); walk_at "ge1") | ((with_reducible show ga _ _ _ _ _); walk_at "ga1") | ((with_reducible show gt _ _ _ _ _); walk_at "gt1")
  | ((with_reducible show g2 _ _ _ _ _); walk_at "gop") | ((with_reducible show gc _ _ _ _); walk_at "gop") | ((with_reducible show g1 _ _ _ _); with_reducible refine g1_int ?_) | ((with_reducible show gi _ _ _ _ _); first | with_reducible refine gi_tup ?_ | with_reducible refine gi_list ?_ | with_reducible refine gi_range1 ?_ | with_reducible refine gi_range2 ?_ | with_reducible refine gi_enum ?_ | with_reducible refine gi_zip ?_) | walk_at "gg1" | walk_at "glog" | walk_at "gcall")
local macro_rules | `(tactic| walk_at "e") => `(tactic| repeat walk_at "e1")
local macro_rules | `(tactic| walk_at "st") => `(tactic| ((try with_reducible refine gs_seq ?_); walk_at "gs1"; walk_at "e"))
local macro_rules | `(tactic| walk_at "bq") => `(tactic| first | (with_reducible exact ⟨rfl, rfl⟩) | (refine ⟨?_, rfl⟩; first | (simp only [deq_int, decide_eq_false_iff_not, decide_eq_true_eq, Bool.not_eq_false', Bool.not_eq_true']; done) | (simp only [deq_int, decide_eq_false_iff_not, decide_eq_true_eq, Bool.not_eq_false', Bool.not_eq_true']; first | omega | assumption) | omega | assumption | rfl))
local macro_rules | `(tactic| walk_at "d0") => `(tactic| dsimp only [startD, List.map, List.append, HAppend.hAppend, Append.append, List.length_cons, List.length_nil, List.map_cons, List.map_nil, Nat.reduceAdd, Nat.reduceSub, List.replicate, List.cons_append, List.nil_append])
local macro_rules | `(tactic| walk_at "rb") => `(tactic| first | (with_reducible rfl) | decide | ((fail_if_success (with_reducible show deq _ _ = _)); exact rfl))
/-! ### the text -/
def topS (i : Nat) : Stmt := PySem.Challenge.pw_slicechain_k43_whole_parted_places.main.body.getD i (.Pass ⟨0, 0, 0, 0⟩)
abbrev s_is_number : Stmt := topS 9
abbrev N_is_number : List Str := ["thing", "least", "most"]
theorem sc_is_number : FnScope N_is_number ["thing", "least", "most"] (defScope s_is_number) := ⟨rfl, rfl, rfl, by decide +kernel, rfl, by decide +kernel, by decide +kernel⟩
abbrev s_is_edge : Stmt := topS 10
abbrev N_is_edge : List Str := ["thing"]
theorem sc_is_edge : FnScope N_is_edge ["thing"] (defScope s_is_edge) := ⟨rfl, rfl, rfl, by decide +kernel, rfl, by decide +kernel, by decide +kernel⟩
abbrev s_is_cut : Stmt := topS 11
abbrev N_is_cut : List Str := ["thing"]
theorem sc_is_cut : FnScope N_is_cut ["thing"] (defScope s_is_cut) := ⟨rfl, rfl, rfl, by decide +kernel, rfl, by decide +kernel, by decide +kernel⟩
abbrev s_look_cut : Stmt := topS 12
abbrev N_look_cut : List Str := ["cut"]
theorem sc_look_cut : FnScope N_look_cut ["cut"] (defScope s_look_cut) := ⟨rfl, rfl, rfl, by decide +kernel, rfl, by decide +kernel, by decide +kernel⟩
abbrev s_look_long : Stmt := topS 13
abbrev N_look_long : List Str := ["long", "most"]
theorem sc_look_long : FnScope N_look_long ["long", "most"] (defScope s_look_long) := ⟨rfl, rfl, rfl, by decide +kernel, rfl, by decide +kernel, by decide +kernel⟩
abbrev s_edge : Stmt := topS 14
abbrev N_edge : List Str := ["number", "long", "plain", "low", "high"]
theorem sc_edge : FnScope N_edge ["number", "long", "plain", "low", "high"] (defScope s_edge) := ⟨rfl, rfl, rfl, by decide +kernel, rfl, by decide +kernel, by decide +kernel⟩
abbrev s_ends_of : Stmt := topS 15
abbrev N_ends_of : List Str := ["cut", "long", "begin", "end", "step"]
theorem sc_ends_of : FnScope N_ends_of ["cut", "long"] (defScope s_ends_of) := ⟨rfl, rfl, rfl, by decide +kernel, rfl, by decide +kernel, by decide +kernel⟩
abbrev s_plain_span : Stmt := topS 16
abbrev N_plain_span : List Str := ["first", "step", "many"]
theorem sc_plain_span : FnScope N_plain_span ["first", "step", "many"] (defScope s_plain_span) := ⟨rfl, rfl, rfl, by decide +kernel, rfl, by decide +kernel, by decide +kernel⟩
abbrev s_span_of : Stmt := topS 17
abbrev N_span_of : List Str := ["cut", "long", "begin", "end", "step"]
theorem sc_span_of : FnScope N_span_of ["cut", "long"] (defScope s_span_of) := ⟨rfl, rfl, rfl, by decide +kernel, rfl, by decide +kernel, by decide +kernel⟩
abbrev s_places_of : Stmt := topS 18
abbrev N_places_of : List Str := ["one", "first", "step", "many", "k"]
theorem sc_places_of : FnScope N_places_of ["one"] (defScope s_places_of) := ⟨rfl, rfl, rfl, by decide +kernel, rfl, by decide +kernel, by decide +kernel⟩
abbrev s_places : Stmt := topS 19
abbrev N_places : List Str := ["cut", "long"]
theorem sc_places : FnScope N_places ["cut", "long"] (defScope s_places) := ⟨rfl, rfl, rfl, by decide +kernel, rfl, by decide +kernel, by decide +kernel⟩
abbrev s_cut_of : Stmt := topS 21
abbrev N_cut_of : List Str := ["one", "first", "step", "many", "end"]
theorem sc_cut_of : FnScope N_cut_of ["one"] (defScope s_cut_of) := ⟨rfl, rfl, rfl, by decide +kernel, rfl, by decide +kernel, by decide +kernel⟩
abbrev s_parts : Stmt := topS 23
abbrev N_parts : List Str := ["cuts", "long", "one", "some", "cut"]
theorem sc_parts : FnScope N_parts ["cuts", "long"] (defScope s_parts) := ⟨rfl, rfl, rfl, by decide +kernel, rfl, by decide +kernel, by decide +kernel⟩
abbrev s_is_places : Stmt := topS 24
abbrev N_is_places : List Str := ["thing", "long", "one", "other"]
theorem sc_is_places : FnScope N_is_places ["thing", "long"] (defScope s_is_places) := ⟨rfl, rfl, rfl, by decide +kernel, rfl, by decide +kernel, by decide +kernel⟩
abbrev s_rows_from : Stmt := topS 25
abbrev N_rows_from : List Str := ["places", "found", "other", "step", "many"]
theorem sc_rows_from : FnScope N_rows_from ["places"] (defScope s_rows_from) := ⟨rfl, rfl, rfl, by decide +kernel, rfl, by decide +kernel, by decide +kernel⟩
abbrev s_fewest_of : Stmt := topS 26
abbrev N_fewest_of : List Str := ["places", "known", "key", "best", "one", "gone", "rest", "place"]
theorem sc_fewest_of : FnScope N_fewest_of ["places", "known"] (defScope s_fewest_of) := ⟨rfl, rfl, rfl, by decide +kernel, rfl, by decide +kernel, by decide +kernel⟩
abbrev s_fewest_cuts : Stmt := topS 27
abbrev N_fewest_cuts : List Str := ["long", "places", "one"]
theorem sc_fewest_cuts : FnScope N_fewest_cuts ["long", "places"] (defScope s_fewest_cuts) := ⟨rfl, rfl, rfl, by decide +kernel, rfl, by decide +kernel, by decide +kernel⟩
abbrev s_how_many : Stmt := topS 30
abbrev N_how_many : List Str := ["long", "found", "step", "first"]
theorem sc_how_many : FnScope N_how_many ["long"] (defScope s_how_many) := ⟨rfl, rfl, rfl, by decide +kernel, rfl, by decide +kernel, by decide +kernel⟩
abbrev s_lists_of : Stmt := topS 31
abbrev N_lists_of : List Str := ["long", "found", "place", "step", "first", "by", "far", "many"]
theorem sc_lists_of : FnScope N_lists_of ["long"] (defScope s_lists_of) := ⟨rfl, rfl, rfl, by decide +kernel, rfl, by decide +kernel, by decide +kernel⟩
abbrev s_number_of : Stmt := topS 32
abbrev N_number_of : List Str := ["long", "places", "one", "some"]
theorem sc_number_of : FnScope N_number_of ["long", "places"] (defScope s_number_of) := ⟨rfl, rfl, rfl, by decide +kernel, rfl, by decide +kernel, by decide +kernel⟩
abbrev s_list_at : Stmt := topS 33
abbrev N_list_at : List Str := ["long", "number", "some"]
theorem sc_list_at : FnScope N_list_at ["long", "number"] (defScope s_list_at) := ⟨rfl, rfl, rfl, by decide +kernel, rfl, by decide +kernel, by decide +kernel⟩
abbrev s__law_town : Stmt := topS 35
abbrev N__law_town : List Str := ["script"]
theorem sc__law_town : FnScope N__law_town ["script"] (defScope s__law_town) := ⟨rfl, rfl, rfl, by decide +kernel, rfl, by decide +kernel, by decide +kernel⟩
abbrev s__law_draw : Stmt := topS 36
abbrev N__law_draw : List Str := ["script", "town", "many", "at", "left", "number"]
theorem sc__law_draw : FnScope N__law_draw ["script", "town", "many"] (defScope s__law_draw) := ⟨rfl, rfl, rfl, by decide +kernel, rfl, by decide +kernel, by decide +kernel⟩
abbrev s__law_pick : Stmt := topS 37
abbrev N__law_pick : List Str := ["script", "town", "some"]
theorem sc__law_pick : FnScope N__law_pick ["script", "town", "some"] (defScope s__law_pick) := ⟨rfl, rfl, rfl, by decide +kernel, rfl, by decide +kernel, by decide +kernel⟩
abbrev s__law_edge : Stmt := topS 38
abbrev N__law_edge : List Str := ["script", "town", "top", "way", "number"]
theorem sc__law_edge : FnScope N__law_edge ["script", "town", "top"] (defScope s__law_edge) := ⟨rfl, rfl, rfl, by decide +kernel, rfl, by decide +kernel, by decide +kernel⟩
abbrev s__law_cut : Stmt := topS 39
abbrev N__law_cut : List Str := ["script", "town", "top", "wide", "step"]
theorem sc__law_cut : FnScope N__law_cut ["script", "town", "top", "wide"] (defScope s__law_cut) := ⟨rfl, rfl, rfl, by decide +kernel, rfl, by decide +kernel, by decide +kernel⟩
abbrev s__law_ends : Stmt := topS 40
abbrev N__law_ends : List Str := ["cut", "long", "step", "least", "most_here", "found", "number", "plain"]
theorem sc__law_ends : FnScope N__law_ends ["cut", "long"] (defScope s__law_ends) := ⟨rfl, rfl, rfl, by decide +kernel, rfl, by decide +kernel, by decide +kernel⟩
abbrev s__law_took : Stmt := topS 41
abbrev N__law_took : List Str := ["cut", "long", "at", "end", "step", "found"]
theorem sc__law_took : FnScope N__law_took ["cut", "long"] (defScope s__law_took) := ⟨rfl, rfl, rfl, by decide +kernel, rfl, by decide +kernel, by decide +kernel⟩
abbrev s_law : Stmt := topS 42
abbrev N_law : List Str := ["script", "town", "long", "some", "other", "both_here", "told", "unlike", "spots", "cut", "one"]
theorem sc_law : FnScope N_law ["script"] (defScope s_law) := ⟨rfl, rfl, rfl, by decide +kernel, rfl, by decide +kernel, by decide +kernel⟩
structure Tx (K : PySem.W.Frag) (mg : Str → Option Value) where
  C_CutError : Addr
  g_CutError : mg "CutError" = some (.ref C_CutError)
  C_BadCut : Addr
  g_BadCut : mg "BadCut" = some (.ref C_BadCut)
  C_BadLong : Addr
  g_BadLong : mg "BadLong" = some (.ref C_BadLong)
  C_BadRow : Addr
  g_BadRow : mg "BadRow" = some (.ref C_BadRow)
  C_BadNumber : Addr
  g_BadNumber : mg "BadNumber" = some (.ref C_BadNumber)
  x_BadCut : ExcT K mg "BadCut" C_BadCut
  x_BadLong : ExcT K mg "BadLong" C_BadLong
  x_BadRow : ExcT K mg "BadRow" C_BadRow
  f_is_number : Addr
  fd_is_number : FuncData
  F_is_number : Fun K "is_number" "is_number" s_is_number f_is_number fd_is_number
  b_is_number : Binds K fd_is_number ["thing", "least", "most"] []
  g_is_number : mg "is_number" = some (.ref f_is_number)
  f_is_edge : Addr
  fd_is_edge : FuncData
  F_is_edge : Fun K "is_edge" "is_edge" s_is_edge f_is_edge fd_is_edge
  b_is_edge : Binds K fd_is_edge ["thing"] []
  g_is_edge : mg "is_edge" = some (.ref f_is_edge)
  f_is_cut : Addr
  fd_is_cut : FuncData
  F_is_cut : Fun K "is_cut" "is_cut" s_is_cut f_is_cut fd_is_cut
  b_is_cut : Binds K fd_is_cut ["thing"] []
  g_is_cut : mg "is_cut" = some (.ref f_is_cut)
  f_look_cut : Addr
  fd_look_cut : FuncData
  F_look_cut : Fun K "look_cut" "look_cut" s_look_cut f_look_cut fd_look_cut
  b_look_cut : Binds K fd_look_cut ["cut"] []
  g_look_cut : mg "look_cut" = some (.ref f_look_cut)
  f_look_long : Addr
  fd_look_long : FuncData
  F_look_long : FunD K "look_long" "look_long" (defArgs s_look_long) (defBody s_look_long) (defScope s_look_long) [V.int 1000000000] [] f_look_long fd_look_long
  b_look_long : Binds K fd_look_long ["long", "most"] []
  ds_look_long : List Value
  vd_look_long : Vals [V.int 1000000000] ds_look_long
  bd_look_long : Binds K fd_look_long ["long", "most"] ds_look_long
  kb_look_long : KBn K fd_look_long ["long", "most"] 1 ["most"] (fun us ws => us ++ ws) (fun vs zs => vs ++ zs)
  g_look_long : mg "look_long" = some (.ref f_look_long)
  f_edge : Addr
  fd_edge : FuncData
  F_edge : Fun K "edge" "edge" s_edge f_edge fd_edge
  b_edge : Binds K fd_edge ["number", "long", "plain", "low", "high"] []
  g_edge : mg "edge" = some (.ref f_edge)
  f_ends_of : Addr
  fd_ends_of : FuncData
  F_ends_of : Fun K "ends_of" "ends_of" s_ends_of f_ends_of fd_ends_of
  b_ends_of : Binds K fd_ends_of ["cut", "long"] []
  g_ends_of : mg "ends_of" = some (.ref f_ends_of)
  f_plain_span : Addr
  fd_plain_span : FuncData
  F_plain_span : Fun K "plain_span" "plain_span" s_plain_span f_plain_span fd_plain_span
  b_plain_span : Binds K fd_plain_span ["first", "step", "many"] []
  g_plain_span : mg "plain_span" = some (.ref f_plain_span)
  f_span_of : Addr
  fd_span_of : FuncData
  F_span_of : Fun K "span_of" "span_of" s_span_of f_span_of fd_span_of
  b_span_of : Binds K fd_span_of ["cut", "long"] []
  g_span_of : mg "span_of" = some (.ref f_span_of)
  f_places_of : Addr
  fd_places_of : FuncData
  F_places_of : Fun K "places_of" "places_of" s_places_of f_places_of fd_places_of
  b_places_of : Binds K fd_places_of ["one"] []
  g_places_of : mg "places_of" = some (.ref f_places_of)
  f_places : Addr
  fd_places : FuncData
  F_places : Fun K "places" "places" s_places f_places fd_places
  b_places : Binds K fd_places ["cut", "long"] []
  g_places : mg "places" = some (.ref f_places)
  f_cut_of : Addr
  fd_cut_of : FuncData
  F_cut_of : Fun K "cut_of" "cut_of" s_cut_of f_cut_of fd_cut_of
  b_cut_of : Binds K fd_cut_of ["one"] []
  g_cut_of : mg "cut_of" = some (.ref f_cut_of)
  f_parts : Addr
  fd_parts : FuncData
  F_parts : Fun K "parts" "parts" s_parts f_parts fd_parts
  b_parts : Binds K fd_parts ["cuts", "long"] []
  g_parts : mg "parts" = some (.ref f_parts)
  f_is_places : Addr
  fd_is_places : FuncData
  F_is_places : Fun K "is_places" "is_places" s_is_places f_is_places fd_is_places
  b_is_places : Binds K fd_is_places ["thing", "long"] []
  g_is_places : mg "is_places" = some (.ref f_is_places)
  f_rows_from : Addr
  fd_rows_from : FuncData
  F_rows_from : Fun K "rows_from" "rows_from" s_rows_from f_rows_from fd_rows_from
  b_rows_from : Binds K fd_rows_from ["places"] []
  g_rows_from : mg "rows_from" = some (.ref f_rows_from)
  f_fewest_of : Addr
  fd_fewest_of : FuncData
  F_fewest_of : Fun K "fewest_of" "fewest_of" s_fewest_of f_fewest_of fd_fewest_of
  b_fewest_of : Binds K fd_fewest_of ["places", "known"] []
  g_fewest_of : mg "fewest_of" = some (.ref f_fewest_of)
  f_fewest_cuts : Addr
  fd_fewest_cuts : FuncData
  F_fewest_cuts : Fun K "fewest_cuts" "fewest_cuts" s_fewest_cuts f_fewest_cuts fd_fewest_cuts
  b_fewest_cuts : Binds K fd_fewest_cuts ["long", "places"] []
  g_fewest_cuts : mg "fewest_cuts" = some (.ref f_fewest_cuts)
  f_how_many : Addr
  fd_how_many : FuncData
  F_how_many : Fun K "how_many" "how_many" s_how_many f_how_many fd_how_many
  b_how_many : Binds K fd_how_many ["long"] []
  g_how_many : mg "how_many" = some (.ref f_how_many)
  f_lists_of : Addr
  fd_lists_of : FuncData
  F_lists_of : Fun K "lists_of" "lists_of" s_lists_of f_lists_of fd_lists_of
  b_lists_of : Binds K fd_lists_of ["long"] []
  g_lists_of : mg "lists_of" = some (.ref f_lists_of)
  f_number_of : Addr
  fd_number_of : FuncData
  F_number_of : Fun K "number_of" "number_of" s_number_of f_number_of fd_number_of
  b_number_of : Binds K fd_number_of ["long", "places"] []
  g_number_of : mg "number_of" = some (.ref f_number_of)
  f_list_at : Addr
  fd_list_at : FuncData
  F_list_at : Fun K "list_at" "list_at" s_list_at f_list_at fd_list_at
  b_list_at : Binds K fd_list_at ["long", "number"] []
  g_list_at : mg "list_at" = some (.ref f_list_at)
  f__law_town : Addr
  fd__law_town : FuncData
  F__law_town : Fun K "_law_town" "_law_town" s__law_town f__law_town fd__law_town
  b__law_town : Binds K fd__law_town ["script"] []
  g__law_town : mg "_law_town" = some (.ref f__law_town)
  f__law_draw : Addr
  fd__law_draw : FuncData
  F__law_draw : Fun K "_law_draw" "_law_draw" s__law_draw f__law_draw fd__law_draw
  b__law_draw : Binds K fd__law_draw ["script", "town", "many"] []
  g__law_draw : mg "_law_draw" = some (.ref f__law_draw)
  f__law_pick : Addr
  fd__law_pick : FuncData
  F__law_pick : Fun K "_law_pick" "_law_pick" s__law_pick f__law_pick fd__law_pick
  b__law_pick : Binds K fd__law_pick ["script", "town", "some"] []
  g__law_pick : mg "_law_pick" = some (.ref f__law_pick)
  f__law_edge : Addr
  fd__law_edge : FuncData
  F__law_edge : Fun K "_law_edge" "_law_edge" s__law_edge f__law_edge fd__law_edge
  b__law_edge : Binds K fd__law_edge ["script", "town", "top"] []
  g__law_edge : mg "_law_edge" = some (.ref f__law_edge)
  f__law_cut : Addr
  fd__law_cut : FuncData
  F__law_cut : Fun K "_law_cut" "_law_cut" s__law_cut f__law_cut fd__law_cut
  b__law_cut : Binds K fd__law_cut ["script", "town", "top", "wide"] []
  g__law_cut : mg "_law_cut" = some (.ref f__law_cut)
  f__law_ends : Addr
  fd__law_ends : FuncData
  F__law_ends : Fun K "_law_ends" "_law_ends" s__law_ends f__law_ends fd__law_ends
  b__law_ends : Binds K fd__law_ends ["cut", "long"] []
  g__law_ends : mg "_law_ends" = some (.ref f__law_ends)
  f__law_took : Addr
  fd__law_took : FuncData
  F__law_took : Fun K "_law_took" "_law_took" s__law_took f__law_took fd__law_took
  b__law_took : Binds K fd__law_took ["cut", "long"] []
  g__law_took : mg "_law_took" = some (.ref f__law_took)
  c_BOUND : ∃ t, mg "BOUND" = some (.int 1000000000 t)
  c_MOST_ROW : ∃ t, mg "MOST_ROW" = some (.int 200 t)
  c_MOST_LISTED : ∃ t, mg "MOST_LISTED" = some (.int 30 t)
  z_IndexError : mg "IndexError" = none
  z_all : mg "all" = none
  z_bool : mg "bool" = none
  z_int : mg "int" = none
  z_isinstance : mg "isinstance" = none
  z_len : mg "len" = none
  z_list : mg "list" = none
  z_max : mg "max" = none
  z_min : mg "min" = none
  z_range : mg "range" = none
  z_set : mg "set" = none
  z_sorted : mg "sorted" = none
  z_sum : mg "sum" = none
  z_tuple : mg "tuple" = none
  z_zip : mg "zip" = none
section
variable {P : Program} {w : World} {K : PySem.W.Frag} {mg : Str → Option Value} {base : Heap}
/-! #### is_number -/
def T_is_number : TD := fun ds m Q _ => ∃ x lo hi, ds = [x, .int lo, .int hi] ∧ Arg x ∧ Q (.bl (isNum x lo hi)) m
theorem in_is_number {x : D} {lo hi : Int} {m : M} {Q : D → M → Prop} {X : XD} (a : Arg x) (q : Q (.bl (isNum x lo hi)) m) : T_is_number [x, .int lo, .int hi] m Q X := ⟨x, lo, hi, rfl, a, q⟩
local macro_rules | `(tactic| walk_at "gcall") => `(tactic| ((with_reducible refine in_is_number ?ha ?_); (case ha => walk_at "arg")))
theorem ok_is_number (T : Tx K mg) : FnOk P w K mg base CX0 1 T.f_is_number T.fd_is_number ["thing", "least", "most"] (spOf T_is_number) := by
  refine fn_ok (n := 3) rfl T.F_is_number sc_is_number (fun ds m Q X0 h => by repeat (first | (obtain ⟨e, _⟩ := h; subst e; rfl; done) | obtain ⟨_, h⟩ := h)) fun cdv A outer s H E hr => ⟨_, (pss_one (ps_ret (pe_and (pe_callB (kIsi K) (by rfl) T.z_isinstance PyProof.Rows.boot_isinstance (pa_cons (pv 0) (pa_cons (pe_bltn (v := .ty "int") (by rfl) T.z_int (by decide +kernel) rfl) pa_nil))) (pe_and (pe_not (pe_callB (kIsi K) (by rfl) T.z_isinstance PyProof.Rows.boot_isinstance (pa_cons (pv 0) (pa_cons (pe_bltn (v := .ty "bool") (by rfl) T.z_bool (by decide +kernel) rfl) pa_nil)))) (pe_one (pe_chain op_le op_le (pv 1) (pv 0) (pv 2))))))), ?_⟩
  try dsimp only [cxOf]
  rintro ds m Q X0 ⟨x, lo, hi, rfl, a, q⟩
  walk_at "d0"
  walk_at "g"
  refine gc_isInt a ?_
  walk_at "g"
  cases x with
  | int i =>
    walk_at "gd"
    all_goals rename_i hd
    · rw [isNum, decide_eq_true hd] at q
      exact q
    · rw [isNum, decide_eq_false hd] at q
      exact q
  | _ => all_goals (walk_at "g"; exact q)
/-! #### is_edge -/
def T_is_edge : TD := fun ds m Q _ => ∃ x, ds = [x] ∧ Arg x ∧ Q (.bl (isEdge x)) m
theorem in_is_edge {x : D} {m : M} {Q : D → M → Prop} {X : XD} (a : Arg x) (q : Q (.bl (isEdge x)) m) : T_is_edge [x] m Q X := ⟨x, rfl, a, q⟩
local macro_rules | `(tactic| walk_at "gcall") => `(tactic| ((with_reducible refine in_is_edge ?ha ?_); (case ha => walk_at "arg")))
theorem ok_is_edge (T : Tx K mg) : FnOk P w K mg base CX0 2 T.f_is_edge T.fd_is_edge ["thing"] (spOf T_is_edge) := by
  refine fn_ok (n := 1) rfl T.F_is_edge sc_is_edge (fun ds m Q X0 h => by repeat (first | (obtain ⟨e, _⟩ := h; subst e; rfl; done) | obtain ⟨_, h⟩ := h)) fun cdv A outer s H E hr => ⟨_, (pss_one (ps_ret (pe_or (pe_cmpR op_isN (pv 0) pe_non (nomark _)) (pe_one (pe_call (ok_is_number T) (hr.mono (by decide)) (by rfl) T.g_is_number T.F_is_number.kp T.b_is_number .nil pass0 (pa_cons (pv 0) (pa_cons (pe_un un_neg (pe_globI (by rfl) T.c_BOUND)) (pa_cons (pe_globI (by rfl) T.c_BOUND) pa_nil)))))))), ?_⟩
  try dsimp only [cxOf]
  rintro ds m Q X0 ⟨x, rfl, a, q⟩
  walk_at "d0"
  walk_at "g"
  refine ite_b (fun e => ?_) (fun e => ?_)
  · rw [isEdge, e] at q
    exact q
  · rw [isEdge, e] at q
    walk_at "g"
    exact q
/-! #### is_cut -/
def T_is_cut : TD := fun ds m Q _ => ∃ x, ds = [x] ∧ Arg x ∧ Q (.bl (isCut x)) m
theorem in_is_cut {x : D} {m : M} {Q : D → M → Prop} {X : XD} (a : Arg x) (q : Q (.bl (isCut x)) m) : T_is_cut [x] m Q X := ⟨x, rfl, a, q⟩
local macro_rules | `(tactic| walk_at "gcall") => `(tactic| ((with_reducible refine in_is_cut ?ha ?_); (case ha => walk_at "arg")))
theorem ok_is_cut (T : Tx K mg) : FnOk P w K mg base CX0 3 T.f_is_cut T.fd_is_cut ["thing"] (spOf T_is_cut) := by
  refine fn_ok (n := 1) rfl T.F_is_cut sc_is_cut (fun ds m Q X0 h => by repeat (first | (obtain ⟨e, _⟩ := h; subst e; rfl; done) | obtain ⟨_, h⟩ := h)) fun cdv A outer s H E hr => ⟨_, (pss_cons (ps_if (PW.pt (pw_or (pt_not (pt_val (pe_callB (kIsi K) (by rfl) T.z_isinstance PyProof.Rows.boot_isinstance (pa_cons (pv 0) (pa_cons (pe_bltn (v := .ty "tuple") (by rfl) T.z_tuple (by decide +kernel) rfl) pa_nil))))) (pw_or1 (pt_cmpR (kNe K hr.units) (pe_callB (kLen K) (by rfl) T.z_len PySem.boot_len (pa_cons (pv 0) pa_nil)) pe_int (nomark _))))) (pss_one (ps_ret pe_bl)) pss_nil) (pss_one (ps_ret (pe_and (pe_call (ok_is_edge T) (hr.mono (by decide)) (by rfl) T.g_is_edge T.F_is_edge.kp T.b_is_edge .nil pass0 (pa_cons (pe_ix (kIx K) (pv 0) pe_int (fun _ _ => rfl)) pa_nil)) (pe_and (pe_call (ok_is_edge T) (hr.mono (by decide)) (by rfl) T.g_is_edge T.F_is_edge.kp T.b_is_edge .nil pass0 (pa_cons (pe_ix (kIx K) (pv 0) pe_int (fun _ _ => rfl)) pa_nil)) (pe_and (pe_call (ok_is_edge T) (hr.mono (by decide)) (by rfl) T.g_is_edge T.F_is_edge.kp T.b_is_edge .nil pass0 (pa_cons (pe_ix (kIx K) (pv 0) pe_int (fun _ _ => rfl)) pa_nil)) (pe_one (pe_or (pe_cmpR op_isN (pe_ix (kIx K) (pv 0) pe_int (fun _ _ => rfl)) pe_non (nomark _)) (pe_one (pe_cmpR (kNe K hr.units) (pe_ix (kIx K) (pv 0) pe_int (fun _ _ => rfl)) pe_int (nomark _))))))))))), ?_⟩
  try dsimp only [cxOf]
  rintro ds m Q X0 ⟨x, rfl, a, q⟩
  walk_at "d0"
  walk_at "g"
  refine gc_isTup a ?_
  walk_at "g"
  cases x with
  | tup es =>
    walk_at "g"
    have hes : Shs 59 es := by
      rcases a with a | a
      · cases a with | tup h => exact h
      · cases a
    match es, hes with
    | [a1, a2, a3], .cons h1 (.cons h2 (.cons h3 _)) =>
      have i1 : Arg a1 := .inl (h1.le (by decide))
      have i2 : Arg a2 := .inl (h2.le (by decide))
      have i3 : Arg a3 := .inl (h3.le (by decide))
      walk_at "g"
      refine ite_b (fun e1 => ?_) (fun e1 => ?_)
      · walk_at "g"
        refine ite_b (fun e2 => ?_) (fun e2 => ?_)
        · walk_at "g"
          refine ite_b (fun e3 => ?_) (fun e3 => ?_)
          · walk_at "g"
            refine ite_b (fun e4 => ?_) (fun e4 => ?_)
            · rw [isCut, e1, e2, e3, e4] at q
              exact q
            · walk_at "g"
              rw [isCut, e1, e2, e3, e4] at q
              exact q
          · rw [isCut, e1, e2, e3] at q
            exact q
        · rw [isCut, e1, e2] at q
          exact q
      · rw [isCut, e1] at q
        exact q
    | [], _ => walk_at "g"; exact q
    | [_], _ => walk_at "g"; exact q
    | [_, _], _ => walk_at "g"; exact q
    | _ :: _ :: _ :: _ :: es, _ =>
      walk_at "g"
      exact q
  | _ => all_goals (walk_at "g"; exact q)
/-! #### look_cut -/
def T_look_cut (C : Addr) : TD := fun ds m Q X => ∃ x, ds = [x] ∧ Arg x ∧ ((isCut x = true ∧ Q .non m) ∨ (isCut x = false ∧ X (.ref C) none m))
theorem in_look_cut {C : Addr} {c : Cut} {m : M} {Q : D → M → Prop} {X : XD} (h : CutOk c) (q : Q .non m) : T_look_cut C [cutD c] m Q X := ⟨_, rfl, .inl (shCut (n := 59) c), .inl ⟨h.is, q⟩⟩
theorem in_look_cutN {C : Addr} {x : D} {m : M} {Q : D → M → Prop} {X : XD} (a : Arg x) (h : isCut x = false) (q : X (.ref C) none m) : T_look_cut C [x] m Q X := ⟨_, rfl, a, .inr ⟨h, q⟩⟩
local macro_rules | `(tactic| walk_at "gcall") => `(tactic| ((with_reducible refine in_look_cut ?ha ?_); (case ha => assumption)))
theorem ok_look_cut (T : Tx K mg) : FnOk P w K mg base (L2.CX P w) 4 T.f_look_cut T.fd_look_cut ["cut"] (spOf (T_look_cut T.C_BadCut)) := by
  refine fn_okX (n := 1) rfl T.F_look_cut sc_look_cut (fun ds m Q X0 h => by repeat (first | (obtain ⟨e, _⟩ := h; subst e; rfl; done) | obtain ⟨_, h⟩ := h)) fun cdv A outer s H E hr => ⟨_, (pss_one (ps_if (pt_not (pt_val (pe_call (ok_is_cut T) (hr.mono (by decide)) (by rfl) T.g_is_cut T.F_is_cut.kp T.b_is_cut .nil pass0 (pa_cons (pv 0) pa_nil)))) (pss_one (ps_raiseO T.x_BadCut rfl rfl rfl (takes_of (E := E) rfl rfl rfl rfl) (by rfl))) pss_nil)), ?_⟩
  try dsimp only [cxOf]
  rintro ds m Q X0 ⟨x, rfl, a, h⟩
  walk_at "d0"
  rcases h with ⟨h, q⟩ | ⟨h, q⟩
  · walk_at "g"
    rw [h]
    walk_at "g"
    exact q
  · walk_at "g"
    rw [h]
    walk_at "g"
    exact q
/-! #### look_long -/
def T_look_long (C : Addr) : TD := fun ds m Q X => ∃ x n, ds = [x, .int n] ∧ Arg x ∧ ((isNum x 0 n = true ∧ Q .non m) ∨ (isNum x 0 n = false ∧ X (.ref C) none m))
theorem in_look_long {C : Addr} {l n : Int} {m : M} {Q : D → M → Prop} {X : XD} (h1 : 0 ≤ l) (h2 : l ≤ n) (q : Q .non m) : T_look_long C [.int l, .int n] m Q X := ⟨_, _, rfl, .inl (.int _ _), .inl ⟨isNum_of h1 h2, q⟩⟩
theorem in_look_longN {C : Addr} {x : D} {n : Int} {m : M} {Q : D → M → Prop} {X : XD} (a : Arg x) (h : isNum x 0 n = false) (q : X (.ref C) none m) : T_look_long C [x, .int n] m Q X := ⟨_, _, rfl, a, .inr ⟨h, q⟩⟩
local macro_rules | `(tactic| walk_at "gcall") => `(tactic| ((with_reducible refine in_look_long ?ha ?hb ?_); (case ha => omega); (case hb => omega)))
theorem ok_look_long (T : Tx K mg) : FnOk P w K mg base (L2.CX P w) 2 T.f_look_long T.fd_look_long ["long", "most"] (spOf (T_look_long T.C_BadLong)) := by
  refine fn_okDX (n := 2) rfl T.F_look_long sc_look_long (fun ds m Q X0 h => by repeat (first | (obtain ⟨e, _⟩ := h; subst e; rfl; done) | obtain ⟨_, h⟩ := h)) fun cdv A outer s H E hr => ⟨_, (pss_one (ps_if (pt_not (pt_val (pe_call (ok_is_number T) (hr.mono (by decide)) (by rfl) T.g_is_number T.F_is_number.kp T.b_is_number .nil pass0 (pa_cons (pv 0) (pa_cons pe_int (pa_cons (pv 1) pa_nil)))))) (pss_one (ps_raiseO T.x_BadLong rfl rfl rfl (takes_of (E := E) rfl rfl rfl rfl) (by rfl))) pss_nil)), ?_⟩
  try dsimp only [cxOf]
  rintro ds m Q X0 ⟨x, n, rfl, a, h⟩
  walk_at "d0"
  rcases h with ⟨h, q⟩ | ⟨h, q⟩
  · walk_at "g"
    rw [h]
    walk_at "g"
    exact q
  · walk_at "g"
    rw [h]
    walk_at "g"
    exact q

/-! #### edge -/
def T_edge : TD := fun ds m Q _ => ∃ n l p lo hi, ds = [oi n, .int l, .int p, .int lo, .int hi] ∧ Q (.int (edgeM n l p lo hi)) m
theorem in_edge {n : Option Int} {l p lo hi : Int} {m : M} {Q : D → M → Prop} {X : XD} (q : Q (.int (edgeM n l p lo hi)) m) : T_edge [oi n, .int l, .int p, .int lo, .int hi] m Q X := ⟨_, _, _, _, _, rfl, q⟩
local macro_rules | `(tactic| walk_at "gcall") => `(tactic| with_reducible refine in_edge ?_)
theorem ok_edge (T : Tx K mg) : FnOk P w K mg base CX0 1 T.f_edge T.fd_edge ["number", "long", "plain", "low", "high"] (spOf T_edge) := by
  refine fn_ok (n := 5) rfl T.F_edge sc_edge (fun ds m Q X0 h => by repeat (first | (obtain ⟨e, _⟩ := h; subst e; rfl; done) | obtain ⟨_, h⟩ := h)) fun cdv A outer s H E hr => ⟨_, (pss_cons (ps_if (pt_cmpR op_isN (pv 0) pe_non (nomark _)) (pss_one (ps_ret (pv 2))) pss_nil) (pss_cons (ps_if (pt_cmpR op_lt (pv 0) pe_int (nomark _)) (pss_one (ps_aug (i := 0) sc_edge.nd rfl (Or.inl rfl) (pv 1) ip_add)) pss_nil) (pss_one (ps_ret (pe_callB (call_max2 rfl) (by rfl) T.z_max PyProof.Rows.boot_max (pa_cons (pv 3) (pa_cons (pe_callB (call_min2 rfl) (by rfl) T.z_min PyProof.Rows.boot_min (pa_cons (pv 4) (pa_cons (pv 0) pa_nil))) pa_nil))))))), ?_⟩
  try dsimp only [cxOf]
  rintro ds m Q X0 ⟨n, l, p, lo, hi, rfl, q⟩
  walk_at "d0"
  cases n with
  | none =>
    walk_at "g"
    exact q
  | some n =>
    walk_at "gd"
    all_goals rename_i hd
    · rw [edgeM, if_pos hd] at q
      exact q
    · rw [edgeM, if_neg hd] at q
      exact q
/-! #### ends_of -/
def T_ends_of : TD := fun ds m Q _ => ∃ c l, ds = [cutD c, .int l] ∧ Q (spnD (endsM c l)) m
theorem in_ends_of {c : Cut} {l : Int} {m : M} {Q : D → M → Prop} {X : XD} (q : Q (spnD (endsM c l)) m) : T_ends_of [cutD c, .int l] m Q X := ⟨_, _, rfl, q⟩
local macro_rules | `(tactic| walk_at "gcall") => `(tactic| with_reducible refine in_ends_of ?_)
theorem ok_ends_of (T : Tx K mg) : FnOk P w K mg base CX0 2 T.f_ends_of T.fd_ends_of ["cut", "long"] (spOf T_ends_of) := by
  refine fn_ok (n := 5) rfl T.F_ends_of sc_ends_of (fun ds m Q X0 h => by repeat (first | (obtain ⟨e, _⟩ := h; subst e; rfl; done) | obtain ⟨_, h⟩ := h)) fun cdv A outer s H E hr => ⟨_, (pss_cons (ps_asg (pv 0) (kTup K (n := 3) (by rfl) (pgs_cons (pg_name (i := 2) sc_ends_of.nd rfl (Or.inl rfl)) (pgs_cons (pg_name (i := 3) sc_ends_of.nd rfl (Or.inl rfl)) (pgs_cons (pg_name (i := 4) sc_ends_of.nd rfl (Or.inl rfl)) pgs_nil))))) (pss_cons (ps_if (PW.pt (pw_or (pt_cmpR op_isN (pv 4) pe_non (nomark _)) (pw_or1 (pt_cmpR op_gt (pv 4) pe_int (nomark _))))) (pss_one (ps_ret (pe_tup (pa_cons (pe_call (ok_edge T) (hr.mono (by decide)) (by rfl) T.g_edge T.F_edge.kp T.b_edge .nil pass0 (pa_cons (pv 2) (pa_cons (pv 1) (pa_cons pe_int (pa_cons pe_int (pa_cons (pv 1) pa_nil)))))) (pa_cons (pe_call (ok_edge T) (hr.mono (by decide)) (by rfl) T.g_edge T.F_edge.kp T.b_edge .nil pass0 (pa_cons (pv 3) (pa_cons (pv 1) (pa_cons (pv 1) (pa_cons pe_int (pa_cons (pv 1) pa_nil)))))) (pa_cons (pe_ifExp (pt_cmpR op_isN (pv 4) pe_non (nomark _)) pe_int (pv 4)) pa_nil)))))) pss_nil) (pss_one (ps_ret (pe_tup (pa_cons (pe_call (ok_edge T) (hr.mono (by decide)) (by rfl) T.g_edge T.F_edge.kp T.b_edge .nil pass0 (pa_cons (pv 2) (pa_cons (pv 1) (pa_cons (pe_op op_sub (pv 1) pe_int) (pa_cons (pe_un un_neg pe_int) (pa_cons (pe_op op_sub (pv 1) pe_int) pa_nil)))))) (pa_cons (pe_call (ok_edge T) (hr.mono (by decide)) (by rfl) T.g_edge T.F_edge.kp T.b_edge .nil pass0 (pa_cons (pv 3) (pa_cons (pv 1) (pa_cons (pe_un un_neg pe_int) (pa_cons (pe_un un_neg pe_int) (pa_cons (pe_op op_sub (pv 1) pe_int) pa_nil)))))) (pa_cons (pv 4) pa_nil)))))))), ?_⟩
  try dsimp only [cxOf]
  rintro ds m Q X0 ⟨⟨b, e, st⟩, l, rfl, q⟩
  walk_at "d0"
  cases st with
  | none =>
    walk_at "g"
    exact q
  | some st =>
    walk_at "gd"
    all_goals rename_i hd
    · simp only [endsM, if_pos hd] at q
      exact q
    · simp only [endsM, if_neg hd] at q
      exact q
/-! #### plain_span -/
def T_plain_span : TD := fun ds m Q _ => ∃ f s n, ds = [.int f, .int s, .int n] ∧ Q (spnD (plainM f s n)) m
theorem in_plain_span {f s n : Int} {m : M} {Q : D → M → Prop} {X : XD} (q : Q (spnD (plainM f s n)) m) : T_plain_span [.int f, .int s, .int n] m Q X := ⟨_, _, _, rfl, q⟩
local macro_rules | `(tactic| walk_at "gcall") => `(tactic| with_reducible refine in_plain_span ?_)
theorem ok_plain_span (T : Tx K mg) : FnOk P w K mg base CX0 1 T.f_plain_span T.fd_plain_span ["first", "step", "many"] (spOf T_plain_span) := by
  refine fn_ok (n := 3) rfl T.F_plain_span sc_plain_span (fun ds m Q X0 h => by repeat (first | (obtain ⟨e, _⟩ := h; subst e; rfl; done) | obtain ⟨_, h⟩ := h)) fun cdv A outer s H E hr => ⟨_, (pss_cons (ps_if (pt_cmpR op_lt (pv 2) pe_int (nomark _)) (pss_one (ps_ret (pe_tup (pa_cons pe_int (pa_cons pe_int (pa_cons pe_int pa_nil)))))) pss_nil) (pss_one (ps_ret (pe_tup (pa_cons (pv 0) (pa_cons (pe_ifExp (pt_cmpR op_gt (pv 2) pe_int (nomark _)) (pv 1) pe_int) (pa_cons (pv 2) pa_nil))))))), ?_⟩
  try dsimp only [cxOf]
  rintro ds m Q X0 ⟨f, st, n, rfl, q⟩
  walk_at "d0"
  walk_at "g"
  refine ite_dec (fun h1 => ?_) (fun h1 => ?_)
  · walk_at "g"
    rw [plainM, if_pos h1] at q
    exact q
  · walk_at "g"
    refine ite_dec (fun h2 => ?_) (fun h2 => ?_)
    · walk_at "g"
      rw [plainM, if_neg h1, if_pos h2] at q
      exact q
    · walk_at "g"
      rw [plainM, if_neg h1, if_neg h2] at q
      exact q
/-! #### span_of -/
def T_span_of : TD := fun ds m Q _ => ∃ c l, ds = [cutD c, .int l] ∧ CutOk c ∧ Q (spnD (spanM c l)) m
theorem in_span_of {c : Cut} {l : Int} {m : M} {Q : D → M → Prop} {X : XD} (h : CutOk c) (q : Q (spnD (spanM c l)) m) : T_span_of [cutD c, .int l] m Q X := ⟨_, _, rfl, h, q⟩
local macro_rules | `(tactic| walk_at "gcall") => `(tactic| ((with_reducible refine in_span_of ?ha ?_); (case ha => assumption)))
theorem ok_span_of (T : Tx K mg) : FnOk P w K mg base CX0 3 T.f_span_of T.fd_span_of ["cut", "long"] (spOf T_span_of) := by
  refine fn_ok (n := 5) rfl T.F_span_of sc_span_of (fun ds m Q X0 h => by repeat (first | (obtain ⟨e, _⟩ := h; subst e; rfl; done) | obtain ⟨_, h⟩ := h)) fun cdv A outer s H E hr => ⟨_, (pss_cons (ps_asg (pe_call (ok_ends_of T) (hr.mono (by decide)) (by rfl) T.g_ends_of T.F_ends_of.kp T.b_ends_of .nil pass0 (pa_cons (pv 0) (pa_cons (pv 1) pa_nil))) (kTup K (n := 3) (by rfl) (pgs_cons (pg_name (i := 2) sc_span_of.nd rfl (Or.inl rfl)) (pgs_cons (pg_name (i := 3) sc_span_of.nd rfl (Or.inl rfl)) (pgs_cons (pg_name (i := 4) sc_span_of.nd rfl (Or.inl rfl)) pgs_nil))))) (pss_cons (ps_if (pt_cmpR op_gt (pv 4) pe_int (nomark _)) (pss_one (ps_ret (pe_call (ok_plain_span T) (hr.mono (by decide)) (by rfl) T.g_plain_span T.F_plain_span.kp T.b_plain_span .nil pass0 (pa_cons (pv 2) (pa_cons (pv 4) (pa_cons (pe_op op_fdivP (pe_op op_sub (pe_op (kAdd K) (pe_op op_sub (pv 3) (pv 2)) (pv 4)) pe_int) (pv 4)) pa_nil)))))) pss_nil) (pss_one (ps_ret (pe_call (ok_plain_span T) (hr.mono (by decide)) (by rfl) T.g_plain_span T.F_plain_span.kp T.b_plain_span .nil pass0 (pa_cons (pv 2) (pa_cons (pv 4) (pa_cons (pe_op op_fdivP (pe_op op_sub (pe_op op_sub (pe_op op_sub (pv 2) (pv 3)) (pv 4)) pe_int) (pe_op op_sub pe_int (pv 4))) pa_nil)))))))), ?_⟩
  try dsimp only [cxOf]
  rintro ds m Q X0 ⟨c, l, rfl, h, q⟩
  walk_at "d0"
  obtain ⟨hz, h1, h2⟩ := endsM_step h l
  unfold spanM at q
  walk_at "g"
  generalize endsM c l = e at *
  obtain ⟨b, en, st⟩ := e
  walk_at "gd"
  all_goals rename_i hd
  · rw [if_pos hd] at q
    exact q
  · rw [if_neg hd] at q
    exact q
/-! #### places_of -/
def T_places_of : TD := fun ds m Q _ => ∃ s : Spn, ds = [spnD s] ∧ (-90000 ≤ s.2.2 ∧ s.2.2 ≤ 90000) ∧ (-18446744073709551616 < s.2.1 ∧ s.2.1 < 18446744073709551616) ∧ Q (intsD (spanL s)) m
theorem in_places_of {s : Spn} {m : M} {Q : D → M → Prop} {X : XD} (h1 : -90000 ≤ s.2.2 ∧ s.2.2 ≤ 90000) (h2 : -18446744073709551616 < s.2.1 ∧ s.2.1 < 18446744073709551616) (q : Q (intsD (spanL s)) m) : T_places_of [spnD s] m Q X := ⟨s, rfl, h1, h2, q⟩
theorem in_places_of' {s : Spn} {l : Int} {m : M} {Q : D → M → Prop} {X : XD} (h : SpanIn s l) (hl : l ≤ 90000) (q : Q (intsD (spanL s)) m) : T_places_of [spnD s] m Q X := ⟨s, rfl, ⟨by have := h.n0; omega, by have := h.nl; omega⟩, by have := h.st; omega, q⟩
theorem ok_places_of (T : Tx K mg) : FnOk P w K mg base CX0 1 T.f_places_of T.fd_places_of ["one"] (spOf T_places_of) := by
  refine fn_ok (n := 5) rfl T.F_places_of sc_places_of (fun ds m Q X0 h => by repeat (first | (obtain ⟨e, _⟩ := h; subst e; rfl; done) | obtain ⟨_, h⟩ := h)) fun cdv A outer s H E hr => ⟨_, (pss_cons (ps_asg (pv 0) (kTup K (n := 3) (by rfl) (pgs_cons (pg_name (i := 1) sc_places_of.nd rfl (Or.inr rfl)) (pgs_cons (pg_name (i := 2) sc_places_of.nd rfl (Or.inr rfl)) (pgs_cons (pg_name (i := 3) sc_places_of.nd rfl (Or.inl rfl)) pgs_nil))))) (pss_one (ps_ret (pe_lc (own := [("k", 4)]) (by rfl) sc_places_of.nd (pi_range1 (by rfl) T.z_range (pa_cons (pv 3) pa_nil)) (blkOk_by (own := [("k", 4)]) (N := N_places_of) (sc := defScope s_places_of) (by decide +kernel)) (fun _ _ _ _ _ => pg_name (i := 4) sc_places_of.nd rfl (Or.inl rfl)) (fun _ _ _ _ _ => pts_nil) (fun _ _ _ _ _ => (pe_op (kAdd K) (pv 1) (pe_op op_mulP (pv 2) (pv 4)))))))), ?_⟩
  try dsimp only [cxOf]
  rintro ds m Q X0 ⟨⟨f, st, n⟩, rfl, h1, h2, q⟩
  walk_at "d0"
  have h1 : -90000 ≤ n ∧ n ≤ 90000 := h1
  have h2 : -18446744073709551616 < st ∧ st < 18446744073709551616 := h2
  walk_at "g"
  refine ⟨n, rfl, ?_⟩
  refine ⟨by omega, by omega, ?_⟩
  intro p hp
  refine glc_range (fun k : Nat => .int (f + st * (k : Int))) 0 n.toNat (by omega) (fun i hi acc => ?_) ?_
  · rw [Int.zero_add]
    walk_at "g"
    exact ⟨rfl, rfl⟩
  · rw [show (List.range n.toNat).map (fun k : Nat => D.int (f + st * (k : Int))) = (spanL (f, st, n)).map D.int from (List.map_map ..).symm]
    exact q
/-! #### places -/
def T_places : TD := fun ds m Q _ => ∃ c l, ds = [cutD c, .int l] ∧ CutOk c ∧ 0 ≤ l ∧ l ≤ 200 ∧ Q (intsD (spanL (spanM c l))) m
theorem in_places {c : Cut} {l : Int} {m : M} {Q : D → M → Prop} {X : XD} (h : CutOk c) (h1 : 0 ≤ l) (h2 : l ≤ 200) (q : Q (intsD (spanL (spanM c l))) m) : T_places [cutD c, .int l] m Q X := ⟨_, _, rfl, h, h1, h2, q⟩
local macro_rules | `(tactic| walk_at "gcall") => `(tactic| ((with_reducible refine in_places ?ha ?hb ?hc ?_); (case ha => assumption); (case hb => omega); (case hc => omega)))
theorem ok_places (T : Tx K mg) : FnOk P w K mg base CX0 5 T.f_places T.fd_places ["cut", "long"] (spOf T_places) := by
  refine fn_ok (n := 2) rfl T.F_places sc_places (fun ds m Q X0 h => by repeat (first | (obtain ⟨e, _⟩ := h; subst e; rfl; done) | obtain ⟨_, h⟩ := h)) fun cdv A outer s H E hr => ⟨_, (pss_cons (ps_expr (pe_call (ok_look_cut T) (hr.mono (by decide)) (by rfl) T.g_look_cut T.F_look_cut.kp T.b_look_cut .nil passL (pa_cons (pv 0) pa_nil))) (pss_cons (ps_expr (pe_callN (ok_look_long T) (hr.mono (by decide)) (by rfl) T.g_look_long T.F_look_long.kp T.kb_look_long passL (pa_cons (pv 1) pa_nil) (pk_cons (pe_globI (by rfl) T.c_MOST_ROW) pk_nil))) (pss_one (ps_ret (pe_call (ok_places_of T) (hr.mono (by decide)) (by rfl) T.g_places_of T.F_places_of.kp T.b_places_of .nil pass0 (pa_cons (pe_call (ok_span_of T) (hr.mono (by decide)) (by rfl) T.g_span_of T.F_span_of.kp T.b_span_of .nil pass0 (pa_cons (pv 0) (pa_cons (pv 1) pa_nil))) pa_nil)))))), ?_⟩
  try dsimp only [cxOf]
  rintro ds m Q X0 ⟨c, l, rfl, h, h1, h2, q⟩
  walk_at "d0"
  walk_at "g"
  refine ge_callN ?_
  walk_at "g"
  refine ⟨rfl, rfl, ?_⟩
  show T_look_long T.C_BadLong [D.int l, D.int 200] m _ _
  walk_at "g"
  refine in_places_of' (span_in h h1) (by omega) ?_
  exact q
/-! #### cut_of -/
def T_cut_of : TD := fun ds m Q _ => ∃ (s : Spn), ds = [spnD s] ∧ (-1000000000 ≤ s.2.2 ∧ s.2.2 ≤ 1000000000) ∧ Q (cutD (cutOfM s)) m
theorem in_cut_of {s : Spn} {m : M} {Q : D → M → Prop} {X : XD} (h : -1000000000 ≤ s.2.2 ∧ s.2.2 ≤ 1000000000) (q : Q (cutD (cutOfM s)) m) : T_cut_of [spnD s] m Q X := ⟨_, rfl, h, q⟩
theorem ok_cut_of (T : Tx K mg) : FnOk P w K mg base CX0 1 T.f_cut_of T.fd_cut_of ["one"] (spOf T_cut_of) := by
  refine fn_ok (n := 5) rfl T.F_cut_of sc_cut_of (fun ds m Q X0 h => by repeat (first | (obtain ⟨e, _⟩ := h; subst e; rfl; done) | obtain ⟨_, h⟩ := h)) fun cdv A outer s H E hr => ⟨_, (pss_cons (ps_asg (pv 0) (kTup K (n := 3) (by rfl) (pgs_cons (pg_name (i := 1) sc_cut_of.nd rfl (Or.inl rfl)) (pgs_cons (pg_name (i := 2) sc_cut_of.nd rfl (Or.inl rfl)) (pgs_cons (pg_name (i := 3) sc_cut_of.nd rfl (Or.inl rfl)) pgs_nil))))) (pss_cons (ps_if (pt_cmpR (kEq K hr.units) (pv 3) pe_int (nomark _)) (pss_one (ps_ret (pe_tup (pa_cons pe_int (pa_cons pe_int (pa_cons pe_int pa_nil)))))) pss_nil) (pss_cons (ps_set (i := 4) sc_cut_of.nd rfl (Or.inl rfl) (pe_op (kAdd K) (pe_op (kAdd K) (pv 1) (pe_op op_mulP (pv 2) (pe_op op_sub (pv 3) pe_int))) (pe_ifExp (pt_cmpR op_gt (pv 2) pe_int (nomark _)) pe_int (pe_un un_neg pe_int)))) (pss_one (ps_ret (pe_tup (pa_cons (pv 1) (pa_cons (pe_ifExp (pt_cmpR op_lt (pv 4) pe_int (nomark _)) pe_non (pv 4)) (pa_cons (pv 2) pa_nil))))))))), ?_⟩
  try dsimp only [cxOf]
  rintro ds m Q X0 ⟨⟨f, st, n⟩, rfl, hn, q⟩
  walk_at "d0"
  have hn : -1000000000 ≤ n ∧ n ≤ 1000000000 := hn
  unfold cutOfM at q
  have q : Q (cutD (if n = 0 then (some 0, some 0, some 1) else (some f, if f + st * (n - 1) + (if 0 < st then 1 else -1) < 0 then none else some (f + st * (n - 1) + (if 0 < st then 1 else -1)), some st))) m := q
  walk_at "g"
  refine ite_deq (fun hd => ?_) (fun hd => ?_)
  · rw [if_pos hd] at q
    walk_at "g"
    exact q
  · rw [if_neg hd] at q
    walk_at "g"
    refine ite_dec (fun h1 => ?_) (fun h1 => ?_)
    · rw [if_pos h1] at q
      walk_at "g"
      refine ite_dec (fun h2 => ?_) (fun h2 => ?_)
      · rw [if_pos h2] at q
        walk_at "g"
        exact q
      · rw [if_neg h2] at q
        walk_at "g"
        exact q
    · rw [if_neg h1] at q
      walk_at "g"
      refine ite_dec (fun h2 => ?_) (fun h2 => ?_)
      · rw [if_pos h2] at q
        walk_at "g"
        exact q
      · rw [if_neg h2] at q
        walk_at "g"
        exact q
/-! #### parts -/
def T_parts (CB CL : Addr) : TD := fun ds m Q X => ∃ x y, ds = [x, y] ∧ Arg x ∧ Arg y ∧ ((isCuts 10 x = false ∧ X (.ref CB) none m) ∨ ∃ cs : List Cut, x = chainD cs ∧ cs.length ≤ 10 ∧ (∀ c ∈ cs, CutOk c) ∧ ((isNum y 0 200 = false ∧ X (.ref CL) none m) ∨ ∃ l : Int, y = .int l ∧ 0 ≤ l ∧ l ≤ 200 ∧ ∀ ns' : List Int, ns'.Perm (cs.flatMap fun c => spanL (spanM c l)) → ns'.Pairwise (· ≤ ·) → Q (.bl (decide (ns' = rgI l))) m))
theorem in_parts {CB CL : Addr} {cs : List Cut} {l : Int} {m : M} {Q : D → M → Prop} {X : XD} (h0 : cs.length ≤ 10) (h : ∀ c ∈ cs, CutOk c) (h1 : 0 ≤ l) (h2 : l ≤ 200) (q : ∀ ns' : List Int, ns'.Perm (cs.flatMap fun c => spanL (spanM c l)) → ns'.Pairwise (· ≤ ·) → Q (.bl (decide (ns' = rgI l))) m) : T_parts CB CL [chainD cs, .int l] m Q X := ⟨_, _, rfl, .inl (shChain (n := 58) cs), .inl (.int _ _), .inr ⟨cs, rfl, h0, h, .inr ⟨l, rfl, h1, h2, q⟩⟩⟩
theorem ok_parts (T : Tx K mg) : FnOk P w K mg base (L2.CX P w) 4 T.f_parts T.fd_parts ["cuts", "long"] (spOf (T_parts T.C_BadCut T.C_BadLong)) := by
  refine fn_okX (n := 5) rfl T.F_parts sc_parts (fun ds m Q X0 h => by repeat (first | (obtain ⟨e, _⟩ := h; subst e; rfl; done) | obtain ⟨_, h⟩ := h)) fun cdv A outer s H E hr => ⟨_, (pss_cons (ps_if (PW.pt (pw_or (pt_not (pt_val (pe_callB (kIsi K) (by rfl) T.z_isinstance PyProof.Rows.boot_isinstance (pa_cons (pv 0) (pa_cons (pe_bltn (v := .ty "list") (by rfl) T.z_list (by decide +kernel) rfl) pa_nil))))) (pw_or (pt_cmpR op_gt (pe_callB (kLen K) (by rfl) T.z_len PySem.boot_len (pa_cons (pv 0) pa_nil)) pe_int (nomark _)) (pw_or1 (pt_not (pt_val (pe_callB (kAll K rfl) (by rfl) T.z_all PyProof.Rows.boot_all (pa_cons (pe_lc (own := [("one", 2)]) (by rfl) sc_parts.nd (kiList K (pv 0)) (blkOk_by (own := [("one", 2)]) (N := N_parts) (sc := defScope s_parts) (by decide +kernel)) (fun _ _ _ _ _ => pg_name (i := 2) sc_parts.nd rfl (Or.inl rfl)) (fun _ _ _ _ _ => pts_nil) (fun _ _ _ _ _ => (pe_call (ok_is_cut T) (hr.mono (by decide)) (by rfl) T.g_is_cut T.F_is_cut.kp T.b_is_cut .nil pass0 (pa_cons (pv 2) pa_nil)))) pa_nil)))))))) (pss_one (ps_raiseO T.x_BadCut rfl rfl rfl (takes_of (E := E) rfl rfl rfl rfl) (by rfl))) pss_nil) (pss_cons (ps_expr (pe_callN (ok_look_long T) (hr.mono (by decide)) (by rfl) T.g_look_long T.F_look_long.kp T.kb_look_long passX (pa_cons (pv 1) pa_nil) (pk_cons (pe_globI (by rfl) T.c_MOST_ROW) pk_nil))) (pss_cons (ps_set (i := 3) sc_parts.nd rfl (Or.inl rfl) (pe_lst pa_nil)) (pss_cons (ps_for (passes_of rfl) rfl (kiList K (pv 0)) (pg_name (i := 4) sc_parts.nd rfl (Or.inl rfl)) (pss_one (ps_set (i := 3) sc_parts.nd rfl (Or.inl rfl) (pe_op (kAdd K) (pv 3) (pe_call (ok_places_of T) (hr.mono (by decide)) (by rfl) T.g_places_of T.F_places_of.kp T.b_places_of .nil pass0 (pa_cons (pe_call (ok_span_of T) (hr.mono (by decide)) (by rfl) T.g_span_of T.F_span_of.kp T.b_span_of .nil pass0 (pa_cons (pv 4) (pa_cons (pv 1) pa_nil))) pa_nil)))))) (pss_one (ps_ret (pe_cmpR (kEq K hr.units) (pe_callB (kSorted K) (by rfl) T.z_sorted PyProof.Rows.boot_sorted (pa_cons (pv 3) pa_nil)) (pe_listRg (by rfl) (by rfl) T.z_list (prg_1 (by rfl) T.z_range (pv 1))) (nomark _)))))))), ?_⟩
  try dsimp only [cxOf]
  rintro ds m Q X0 ⟨x, y, rfl, ax, ay, h⟩
  walk_at "d0"
  rcases h with ⟨hx, q⟩ | ⟨cs, rfl, h0, h, h3⟩
  · cases x with
    | lst es =>
      have hes : Shs 59 es := by
        rcases ax with a | a
        · cases a with | lst h => exact h
        · cases a
      have hx : (decide (es.length ≤ 10) && es.all isCut) = false := hx
      walk_at "g"
      refine ite_dec (fun z => ?_) (fun z => ?_)
      · walk_at "g"
        exact q
      · rw [decide_eq_true (by omega), Bool.true_and] at hx
        walk_at "g"
        intro p hp
        refine glc_map (fun x => .bl (isCut x)) es (by omega) (fun x hx acc => ?_) ?_
        · have ax : Arg x := .inl ((hes.mem hx).le (by decide))
          walk_at "g"
          exact ⟨rfl, rfl⟩
        · rw [show es.map (fun x => D.bl (isCut x)) = (es.map isCut).map D.bl from (List.map_map ..).symm]
          refine ga_nil (gc_all ?_)
          rw [List.all_map]
          rw [show es.all (id ∘ isCut) = false from hx]
          walk_at "g"
          exact q
    | _ => all_goals (walk_at "g"; first | exact q | (refine gc_isLst ax ?_; walk_at "g"; exact q))
  have hcut : (cs.map cutD).all isCut = true := by
    rw [List.all_eq_true]
    intro x hx
    obtain ⟨c, hc, e⟩ := List.mem_map.mp hx
    rw [← e]
    exact (h c hc).is
  have hes : Shs 59 (cs.map cutD) := .of_all fun d hd => by
    obtain ⟨c, _, e⟩ := List.mem_map.mp hd
    rw [← e]
    exact shCut c
  refine gs_bad ?_ ?_
  · walk_at "e"
    intro p hp
    refine glc_map (fun x => .bl (isCut x)) (cs.map cutD) (by rw [List.length_map]; omega) (fun x hx acc => ?_) ?_
    · have ax : Arg x := .inl ((hes.mem hx).le (by decide))
      walk_at "e"
      exact ⟨rfl, rfl⟩
    · rw [show (cs.map cutD).map (fun x => D.bl (isCut x)) = ((cs.map cutD).map isCut).map D.bl from (List.map_map ..).symm]
      refine ga_nil (gc_all ?_)
      rw [List.all_map]
      rw [show (cs.map cutD).all (id ∘ isCut) = true from hcut]
      walk_at "e"
      walk_at "bq"
  walk_at "st"
  refine ge_callN ?_
  walk_at "e"
  refine ⟨rfl, rfl, ?_⟩
  show T_look_long T.C_BadLong [y, D.int 200] m _ _
  rcases h3 with ⟨hy, q⟩ | ⟨l, rfl, h1, h2, q⟩
  · exact in_look_longN ay hy q
  walk_at "e"
  walk_at "st"
  refine gs_seq (gs_for (gi_list ?_))
  walk_at "e"
  refine gfor_inv (fun i d' m' => ∃ y4, m' = m ∧ i ≤ 10 ∧ d' = [some (chainD cs), some (.int l), none, some (intsD ((cs.take i).flatMap fun c => spanL (spanM c l))), y4]) _ (fun i x d' m' hx hP => ?_) (fun d' m' hP => ?_) ⟨none, rfl, by omega, rfl⟩
  · obtain ⟨y4, rfl, hi, rfl⟩ := hP
    rw [List.getElem?_map] at hx
    obtain ⟨c, hc1, hc2⟩ := Option.map_eq_some_iff.mp hx
    subst hc2
    have hok : CutOk c := h c (List.mem_of_getElem? hc1)
    have hil := (List.getElem?_eq_some_iff.mp hc1).1
    have si := span_in hok h1
    have hn := si.nl
    walk_at "e"
    refine gs_asg ?_
    walk_at "e"
    refine in_places_of' si (by omega) ?_
    refine g2_addII ?_ ?_
    · have hall : ∀ xs : List Cut, (∀ c ∈ xs, CutOk c) → (xs.flatMap fun c => spanL (spanM c l)).length ≤ 200 * xs.length := by
        intro xs
        induction xs with
        | nil => intro _; simp
        | cons x xs ih =>
          intro hx
          have h3 := (span_in (hx x List.mem_cons_self) h1).nl
          have h4 := ih fun c hc => hx c (List.mem_cons_of_mem _ hc)
          rw [List.flatMap_cons, List.length_append, spanL_len, List.length_cons]
          omega
      have h3 := hall (cs.take i) fun c hc => h c (List.mem_of_mem_take hc)
      rw [List.length_take] at h3
      rw [spanL_len]
      omega
    walk_at "e"
    refine ⟨some (cutD c), rfl, by omega, ?_⟩
    rw [List.take_add_one, hc1, List.flatMap_append]
    simp only [Option.toList_some, List.flatMap_cons, List.flatMap_nil, List.append_nil]
  · obtain ⟨y4, rfl, hi, rfl⟩ := hP
    rw [List.length_map, List.take_length]
    walk_at "st"
    refine gc_sorted fun ns' p1 p2 => ?_
    walk_at "e"
    refine ⟨⟨h1, by omega⟩, ?_⟩
    walk_at "e"
    rw [deq_ints]
    exact q ns' p1 p2

/-! #### _law_town -/
def T__law_town (K : PySem.W.Frag) : TD := fun ds m Q _ => ∃ ns, ds = [.scr K ns] ∧ ns.length ≤ 63 ∧ ∀ p tw, p ∉ dom m → TownOk ns tw 0 → Q (.ref p) ((p, .lst (tw.map D.int)) :: m)
theorem ok__law_town (T : Tx K mg) : FnOk P w K mg base CX0 1 T.f__law_town T.fd__law_town ["script"] (spOf (T__law_town K)) := by
  refine fn_ok (n := 1) rfl T.F__law_town sc__law_town (fun ds m Q X0 h => by repeat (first | (obtain ⟨e, _⟩ := h; subst e; rfl; done) | obtain ⟨_, h⟩ := h)) fun cdv A outer s H E hr => ⟨_, (pss_one (ps_ret (pe_op (kAdd K) (pe_lst (pa_cons pe_int pa_nil)) (pe_callTy (kList K) (by rfl) T.z_list PyProof.Rows.boot_list (pa_cons (pv 0) pa_nil))))), ?_⟩
  try dsimp only [cxOf]
  rintro ds m Q X0 ⟨ns, rfl, hl, q⟩
  walk_at "d0"
  walk_at "g"
  refine gc_listS ?_
  refine g2_addLM (by simp only [List.length_cons, List.length_nil, List.length_map]; exact Nat.le_trans (Nat.add_le_add_left hl 1) (by decide)) fun p hp => ?_
  exact q p (0 :: ns) hp ⟨by simp, rfl⟩
/-! #### _law_draw -/
def T__law_draw (K : PySem.W.Frag) : TD := fun ds m Q _ => ∃ (ns : List Int) (t : Addr) (many : Int) (j : Nat) (tw : List Int) (c : Nat), ds = [.scr K ns, .ref t, .int many] ∧ m[j]? = some (t, MO.lst (tw.map D.int)) ∧ TownOk ns tw c ∧ c < 1000000 ∧ 1 ≤ many ∧ many < 1073741824 ∧
  ∀ d tw', TownOk ns tw' (c + 1) → 0 ≤ d → d < many → Q (.int d) (m.set j (t, .lst (tw'.map D.int)))
theorem in__law_draw {K : PySem.W.Frag} {ns : List Int} {t : Addr} {many : Int} {tw : List Int} {c : Nat} {m : M} {Q : D → M → Prop} {X : XD} (j : Nat) (hm : m[j]? = some (t, MO.lst (tw.map D.int))) (ht : TownOk ns tw c) (hc : c < 1000000) (h1 : 1 ≤ many) (h2 : many < 1073741824)
    (q : ∀ d tw', TownOk ns tw' (c + 1) → 0 ≤ d → d < many → Q (.int d) (m.set j (t, .lst (tw'.map D.int)))) : T__law_draw K [.scr K ns, .ref t, .int many] m Q X := ⟨ns, t, many, j, tw, c, rfl, hm, ht, hc, h1, h2, q⟩
theorem ok__law_draw (T : Tx K mg) : FnOk P w K mg base CX0 1 T.f__law_draw T.fd__law_draw ["script", "town", "many"] (spOf (T__law_draw K)) := by
  refine fn_ok (n := 6) rfl T.F__law_draw sc__law_draw (fun ds m Q X0 h => by repeat (first | (obtain ⟨e, _⟩ := h; subst e; rfl; done) | obtain ⟨_, h⟩ := h)) fun cdv A outer s H E hr => ⟨_, (pss_cons (ps_asg (pe_op (kAdd K) (pe_ix (kIx K) (pv 1) pe_int (fun _ _ => rfl)) pe_int) (pg_sub (pv 1) pe_int set_list)) (pss_cons (ps_if (pt_cmpR (kEq K hr.units) (pv 0) (pe_lst pa_nil) (nomark _)) (pss_one (ps_ret (pe_op op_modN (pe_op op_fdivP (pe_op op_mulP (pe_op op_mulP (pe_ix (kIx K) (pv 1) pe_int (fun _ _ => rfl)) (pe_ix (kIx K) (pv 1) pe_int (fun _ _ => rfl))) pe_int) pe_int) (pv 2)))) pss_nil) (pss_cons (ps_set (i := 3) sc__law_draw.nd rfl (Or.inl rfl) (pe_op op_modN (pe_ix (kIx K) (pv 1) pe_int (fun _ _ => rfl)) (pe_callB (kLen K) (by rfl) T.z_len PySem.boot_len (pa_cons (pv 0) pa_nil)))) (pss_cons (ps_set (i := 4) sc__law_draw.nd rfl (Or.inl rfl) (pe_ix (kIx K) (pv 1) (pe_op (kAdd K) pe_int (pv 3)) (fun _ _ => rfl))) (pss_cons (ps_if (PW.pt (pw_and (pt_cmpR op_ge (pe_ix (kIx K) (pv 0) (pv 3) (fun _ _ => rfl)) (pe_op op_pow pe_int pe_int) (nomark _)) (pw_and1 (pt_cmpR op_gt (pv 4) pe_int (nomark _))))) (pss_cons (ps_asg (pe_op op_fdivP (pv 4) (pv 2)) (pg_sub (pv 1) (pe_op (kAdd K) pe_int (pv 3)) set_list)) (pss_one (ps_ret (pe_op op_modN (pv 4) (pv 2))))) pss_nil) (pss_cons (ps_set (i := 5) sc__law_draw.nd rfl (Or.inl rfl) (pe_op op_modN (pe_op (kAdd K) (pe_ix (kIx K) (pv 0) (pv 3) (fun _ _ => rfl)) (pe_op op_mulP pe_int (pe_ix (kIx K) (pv 1) pe_int (fun _ _ => rfl)))) pe_int)) (pss_cons (ps_set (i := 5) sc__law_draw.nd rfl (Or.inl rfl) (pe_op op_modN (pe_op op_pow (pv 5) pe_int) pe_int)) (pss_one (ps_ret (pe_op op_modN (pe_op op_fdivP (pe_op op_modN (pe_op (kAdd K) (pe_op op_mulP (pe_op op_fdivP (pv 5) pe_int) pe_int) (pv 5)) pe_int) pe_int) (pv 2))))))))))), ?_⟩
  try dsimp only [cxOf]
  rintro ds m Q X0 ⟨ns, t, many, j, tw, c, rfl, hm, ht, hc, h1, h2, q⟩
  walk_at "d0"
  have hl := ht.len
  have h0 : (0 : Int) < (tw.map D.int).length := by rw [List.length_map, hl]; omega
  have hat : atI (tw.map D.int) 0 = some (.int (c : Int)) := by
    rw [atI_map, atI_some (i := 0) (x := (c : Int)) (by decide) ht.hd]
    rfl
  walk_at "g"
  refine g2_ixPM hm hat ?_
  walk_at "g"
  refine gg_sub ?_
  walk_at "g"
  refine ⟨t, 0, j, tw.map D.int, 0, rfl, rfl, hm, ixN_of (by decide) (by omega), ?_⟩
  rw [show (List.map D.int tw).set 0 (D.int ((c : Int) + 1)) = (tw.set 0 ((c : Int) + 1)).map D.int from (List.map_set).symm]
  have ht1 := townOk_count ht
  generalize tw.set 0 ((c : Int) + 1) = tw1 at ht1 ⊢
  have hjl : j < m.length := (List.getElem?_eq_some_iff.mp hm).1
  have hm1 : (m.set j (t, MO.lst (tw1.map D.int)))[j]? = some (t, MO.lst (tw1.map D.int)) := List.getElem?_set_self hjl
  have hl1 := ht1.len
  have hat1 : atI (tw1.map D.int) 0 = some (.int ((c + 1 : Nat) : Int)) := by
    rw [atI_map, atI_some (i := 0) (x := ((c + 1 : Nat) : Int)) (by decide) ht1.hd]
    rfl
  have hcc : ((c + 1 : Nat) : Int) ≤ 1000000 := by omega
  have hc0 : (1 : Int) ≤ ((c + 1 : Nat) : Int) := by omega
  generalize hcn : ((c + 1 : Nat) : Int) = n at *
  walk_at "g"
  refine g2_eqS ?_
  cases ns with
  | nil =>
    walk_at "g"
    refine g2_ixPM hm1 hat1 ?_
    walk_at "g"
    refine g2_ixPM hm1 hat1 ?_
    have e1 : 0 ≤ n * n := Int.mul_nonneg (by omega) (by omega)
    walk_at "g"
    obtain ⟨a, b⟩ := fm ((n * n * 7).fdiv 3) (k := many) (by omega)
    exact q _ tw1 ht1 a b
  | cons z zs =>
    walk_at "g"
    refine g2_ixPM hm1 hat1 ?_
    walk_at "g"
    refine g2_mod (by simp only [List.length_cons]; omega) ?_
    obtain ⟨a0, a1⟩ := fm n (k := ((z :: zs).length : Int)) (by simp only [List.length_cons]; omega)
    generalize n.fmod ((z :: zs).length : Int) = at0 at a0 a1 ⊢
    walk_at "g"
    obtain ⟨left, l1, l2⟩ := atI_of (xs := tw1) (i := 1 + at0) (by omega) (by rw [hl1]; omega)
    refine g2_ixPM hm1 (by rw [atI_map, l1]; rfl) ?_
    walk_at "g"
    obtain ⟨sv, s1, s2⟩ := atI_of (xs := z :: zs) (i := at0) a0 a1
    refine g2_ixPS s1 ?_
    walk_at "g"
    have rest : gs xc0 (tSeq (tAsg (tOp (rI (fun _ j => j ≠ 0) fun i j => V.int (i.fmod j)) (tOp (rAddP K) (tOp (rIx K) (tVar 0) (tVar 3)) (tOp rMulP (tC (V.int 104729)) (tOp (rIx K) (tVar 1) (tC (V.int 0))))) (tC (V.int 4294967291))) (gName 5)) (tSeq (tAsg (tOp (rI (fun _ j => j ≠ 0) fun i j => V.int (i.fmod j)) (tOp (rI CPow fun i j => V.int (i ^ j.toNat)) (tVar 5) (tC (V.int 5))) (tC (V.int 4294967279))) (gName 5)) (tRet (tOp (rI (fun _ j => j ≠ 0) fun i j => V.int (i.fmod j)) (tOp (rI CDivN fun i j => V.int (i.fdiv j)) (tOp (rI (fun _ j => j ≠ 0) fun i j => V.int (i.fmod j)) (tOp (rAddP K) (tOp rMulP (tOp (rI CDivN fun i j => V.int (i.fdiv j)) (tVar 5) (tC (V.int 64))) (tC (V.int 69621))) (tVar 5)) (tC (V.int 4294967231))) (tC (V.int 8))) (tVar 2)))))
        { nx := fun _ m' => Q .non m', rt := Q } [some (.scr K (z :: zs)), some (.ref t), some (.int many), some (.int at0), some (.int left), none] (m.set j (t, MO.lst (tw1.map D.int))) := by
      walk_at "g"
      refine g2_ixPS s1 ?_
      walk_at "g"
      refine g2_ixPM hm1 hat1 ?_
      walk_at "g"
      obtain ⟨b0, b1⟩ := fm (sv + 104729 * n) (k := 4294967291) (by decide)
      generalize (sv + 104729 * n).fmod 4294967291 = nu at b0 b1 ⊢
      refine g2_pow ⟨by decide, by decide, by omega⟩ ?_
      walk_at "g"
      obtain ⟨d0, d1⟩ := fm (nu ^ (Int.toNat 5)) (k := 4294967279) (by decide)
      generalize (nu ^ (Int.toNat 5)).fmod 4294967279 = nv at d0 d1 ⊢
      walk_at "g"
      obtain ⟨e0, e1⟩ := fm (((nv.fdiv 64 * 69621 + nv).fmod 4294967231).fdiv 8) (k := many) (by omega)
      exact q _ tw1 ht1 e0 e1
    refine ite_dec (fun hd => ?_) (fun hd => ?_)
    · walk_at "g"
      refine ite_dec (fun hp => ?_) (fun hp => ?_)
      · walk_at "g"
        refine gg_sub ?_
        walk_at "g"
        refine ⟨t, _, j, tw1.map D.int, (1 + at0).toNat, rfl, rfl, hm1, ixN_of (by omega) (by rw [List.length_map, hl1]; omega), ?_⟩
        rw [show (List.map D.int tw1).set (1 + at0).toNat (D.int (left.fdiv many)) = (tw1.set (1 + at0).toNat (left.fdiv many)).map D.int from (List.map_set).symm, mset]
        walk_at "g"
        obtain ⟨a, b⟩ := fm left (k := many) (by omega)
        refine q _ (tw1.set (1 + at0).toNat (left.fdiv many)) ?_ a b
        have e : (1 + at0).toNat = at0.toNat + 1 := by omega
        rw [e]
        exact townOk_set ht1 _ _
      · exact gs_next rest
    · walk_at "g1"
      exact gs_next rest
/-! #### _law_pick -/
def T__law_pick (K : PySem.W.Frag) : TD := fun ds m Q _ => ∃ (ns : List Int) (t : Addr) (xs : List D) (j : Nat) (tw : List Int) (c : Nat), ds = [.scr K ns, .ref t, .lst xs] ∧ m[j]? = some (t, MO.lst (tw.map D.int)) ∧ TownOk ns tw c ∧ c < 1000000 ∧ xs ≠ [] ∧ xs.length < 1000000 ∧
  ∀ (i : Nat) x tw', TownOk ns tw' (c + 1) → xs[i]? = some x → Q x (m.set j (t, .lst (tw'.map D.int)))
theorem in__law_pick {K : PySem.W.Frag} {ns : List Int} {t : Addr} {xs : List D} {tw : List Int} {c : Nat} {m : M} {Q : D → M → Prop} {X : XD} (j : Nat) (hm : m[j]? = some (t, MO.lst (tw.map D.int))) (ht : TownOk ns tw c) (hc : c < 1000000) (h1 : xs ≠ []) (h2 : xs.length < 1000000)
    (q : ∀ (i : Nat) x tw', TownOk ns tw' (c + 1) → xs[i]? = some x → Q x (m.set j (t, .lst (tw'.map D.int)))) : T__law_pick K [.scr K ns, .ref t, .lst xs] m Q X := ⟨ns, t, xs, j, tw, c, rfl, hm, ht, hc, h1, h2, q⟩
theorem ok__law_pick (T : Tx K mg) : FnOk P w K mg base CX0 2 T.f__law_pick T.fd__law_pick ["script", "town", "some"] (spOf (T__law_pick K)) := by
  refine fn_ok (n := 3) rfl T.F__law_pick sc__law_pick (fun ds m Q X0 h => by repeat (first | (obtain ⟨e, _⟩ := h; subst e; rfl; done) | obtain ⟨_, h⟩ := h)) fun cdv A outer s H E hr => ⟨_, (pss_one (ps_ret (pe_ix (kIx K) (pv 2) (pe_call (ok__law_draw T) (hr.mono (by decide)) (by rfl) T.g__law_draw T.F__law_draw.kp T.b__law_draw .nil pass0 (pa_cons (pv 0) (pa_cons (pv 1) (pa_cons (pe_callB (kLen K) (by rfl) T.z_len PySem.boot_len (pa_cons (pv 2) pa_nil)) pa_nil)))) (fun _ _ => rfl)))), ?_⟩
  try dsimp only [cxOf]
  rintro ds m Q X0 ⟨ns, t, xs, j, tw, c, rfl, hm, ht, hc, h1, h2, q⟩
  walk_at "d0"
  have hp : 0 < xs.length := List.length_pos_iff.mpr h1
  walk_at "g"
  refine in__law_draw j hm ht hc (by omega) (by omega) fun d tw' ht' d0 d1 => ?_
  obtain ⟨x, x1, x2⟩ := atI_of (xs := xs) (i := d) d0 d1
  refine g2_ixPL x1 ?_
  exact q _ x tw' ht' x2
/-! #### _law_edge -/
def T__law_edge (K : PySem.W.Frag) : TD := fun ds m Q _ => ∃ (ns : List Int) (t : Addr) (top : Int) (j : Nat) (tw : List Int) (c : Nat), ds = [.scr K ns, .ref t, .int top] ∧ m[j]? = some (t, MO.lst (tw.map D.int)) ∧ TownOk ns tw c ∧ c < 900000 ∧ 0 ≤ top ∧ top < 1073741823 ∧
  ∀ o tw' c', c' ≤ c + 3 → TownOk ns tw' c' → EdB top o → Q (oi o) (m.set j (t, .lst (tw'.map D.int)))
theorem in__law_edge {K : PySem.W.Frag} {ns : List Int} {t : Addr} {top : Int} {tw : List Int} {c : Nat} {m : M} {Q : D → M → Prop} {X : XD} (j : Nat) (hm : m[j]? = some (t, MO.lst (tw.map D.int))) (ht : TownOk ns tw c) (hc : c < 900000) (h1 : 0 ≤ top) (h2 : top < 1073741823)
    (q : ∀ o tw' c', c' ≤ c + 3 → TownOk ns tw' c' → EdB top o → Q (oi o) (m.set j (t, .lst (tw'.map D.int)))) : T__law_edge K [.scr K ns, .ref t, .int top] m Q X := ⟨ns, t, top, j, tw, c, rfl, hm, ht, hc, h1, h2, q⟩
theorem ok__law_edge (T : Tx K mg) : FnOk P w K mg base CX0 2 T.f__law_edge T.fd__law_edge ["script", "town", "top"] (spOf (T__law_edge K)) := by
  refine fn_ok (n := 5) rfl T.F__law_edge sc__law_edge (fun ds m Q X0 h => by repeat (first | (obtain ⟨e, _⟩ := h; subst e; rfl; done) | obtain ⟨_, h⟩ := h)) fun cdv A outer s H E hr => ⟨_, (pss_cons (ps_set (i := 3) sc__law_edge.nd rfl (Or.inl rfl) (pe_call (ok__law_draw T) (hr.mono (by decide)) (by rfl) T.g__law_draw T.F__law_draw.kp T.b__law_draw .nil pass0 (pa_cons (pv 0) (pa_cons (pv 1) (pa_cons pe_int pa_nil))))) (pss_cons (ps_if (pt_cmpR (kEq K hr.units) (pv 3) pe_int (nomark _)) (pss_one (ps_ret pe_non)) pss_nil) (pss_cons (ps_set (i := 4) sc__law_edge.nd rfl (Or.inl rfl) (pe_call (ok__law_draw T) (hr.mono (by decide)) (by rfl) T.g__law_draw T.F__law_draw.kp T.b__law_draw .nil pass0 (pa_cons (pv 0) (pa_cons (pv 1) (pa_cons (pe_ifExp (pt_cmpR op_lt (pv 3) pe_int (nomark _)) pe_int (pe_op (kAdd K) (pv 2) pe_int)) pa_nil))))) (pss_one (ps_ret (pe_ifExp (pt_cmpR (kEq K hr.units) (pe_call (ok__law_draw T) (hr.mono (by decide)) (by rfl) T.g__law_draw T.F__law_draw.kp T.b__law_draw .nil pass0 (pa_cons (pv 0) (pa_cons (pv 1) (pa_cons pe_int pa_nil)))) pe_int (nomark _)) (pv 4) (pe_op op_sub pe_int (pv 4)))))))), ?_⟩
  try dsimp only [cxOf]
  rintro ds m Q X0 ⟨ns, t, top, j, tw, c, rfl, hm, ht, hc, h1, h2, q⟩
  walk_at "d0"
  have hjl : j < m.length := (List.getElem?_eq_some_iff.mp hm).1
  have hms : ∀ tw' : List Int, (m.set j (t, MO.lst (tw'.map D.int)))[j]? = some (t, MO.lst (tw'.map D.int)) := fun tw' => List.getElem?_set_self hjl
  walk_at "g"
  refine in__law_draw j hm ht (by omega) (by omega) (by omega) fun way tw1 ht1 w0 w1 => ?_
  walk_at "g"
  rw [deq_int]
  refine ite_dec (fun hd => ?_) (fun hd => ?_)
  · walk_at "g"
    exact q none tw1 (c + 1) (by omega) ht1 (fun i e => by cases e)
  · walk_at "g"
    have next : ∀ mm : Int, 1 ≤ mm → mm ≤ max 8 (top + 1) → T__law_draw K [.scr K ns, .ref t, .int mm] (m.set j (t, MO.lst (tw1.map D.int))) (fun x m1 => gg xc0 (gName 4) x [some (.scr K ns), some (.ref t), some (.int top), some (.int way), none] m1 (gs xc0 (tRet (tIf (tTest (tOp (rEqD K) (tCall (spOf (T__law_draw K)) [] E0 (tCons (tVar 0) (tCons (tVar 1) (tCons (tC (V.int 2)) tNil)))) (tC (V.int 0)))) (tVar 4) (tOp (rI0 fun i j => V.int (i - j)) (tC (V.int 0)) (tVar 4)))) { nx := fun _ m' => Q .non m', rt := Q })) (fun _ _ _ => False) := by
      intro mm hm1 hm2
      refine in__law_draw j (hms tw1) ht1 (by omega) hm1 (by omega) fun nu tw2 ht2 n0 n1 => ?_
      rw [mset]
      walk_at "g"
      refine in__law_draw j (hms tw2) ht2 (by omega) (by omega) (by omega) fun sg tw3 ht3 s0 s1 => ?_
      rw [mset]
      walk_at "g"
      rw [deq_int]
      refine ite_dec (fun he => ?_) (fun he => ?_)
      · walk_at "g"
        exact q (some nu) tw3 _ (by omega) ht3 (fun i e => by cases e; omega)
      · walk_at "g"
        exact q (some (0 - nu)) tw3 _ (by omega) ht3 (fun i e => by cases e; omega)
    refine ite_dec (fun he => ?_) (fun he => ?_)
    · walk_at "g"
      exact next 8 (by decide) (by omega)
    · walk_at "g"
      exact next (top + 1) (by omega) (by omega)
/-! #### _law_cut -/
def T__law_cut (K : PySem.W.Frag) : TD := fun ds m Q _ => ∃ (ns : List Int) (t : Addr) (top wide : Int) (j : Nat) (tw : List Int) (c : Nat), ds = [.scr K ns, .ref t, .int top, .int wide] ∧ m[j]? = some (t, MO.lst (tw.map D.int)) ∧ TownOk ns tw c ∧ c < 800000 ∧ 0 ≤ top ∧ top < 1073741823 ∧ 1 ≤ wide ∧ wide < 1073741823 ∧
  ∀ cu tw' c', c' ≤ c + 9 → TownOk ns tw' c' → CutB top wide cu → Q (cutD cu) (m.set j (t, .lst (tw'.map D.int)))
theorem in__law_cut {K : PySem.W.Frag} {ns : List Int} {t : Addr} {top wide : Int} {tw : List Int} {c : Nat} {m : M} {Q : D → M → Prop} {X : XD} (j : Nat) (hm : m[j]? = some (t, MO.lst (tw.map D.int))) (ht : TownOk ns tw c) (hc : c < 800000) (h1 : 0 ≤ top) (h2 : top < 1073741823) (h3 : 1 ≤ wide) (h4 : wide < 1073741823)
    (q : ∀ cu tw' c', c' ≤ c + 9 → TownOk ns tw' c' → CutB top wide cu → Q (cutD cu) (m.set j (t, .lst (tw'.map D.int)))) : T__law_cut K [.scr K ns, .ref t, .int top, .int wide] m Q X := ⟨ns, t, top, wide, j, tw, c, rfl, hm, ht, hc, h1, h2, h3, h4, q⟩
theorem ok__law_cut (T : Tx K mg) : FnOk P w K mg base CX0 3 T.f__law_cut T.fd__law_cut ["script", "town", "top", "wide"] (spOf (T__law_cut K)) := by
  refine fn_ok (n := 5) rfl T.F__law_cut sc__law_cut (fun ds m Q X0 h => by repeat (first | (obtain ⟨e, _⟩ := h; subst e; rfl; done) | obtain ⟨_, h⟩ := h)) fun cdv A outer s H E hr => ⟨_, (pss_cons (ps_set (i := 4) sc__law_cut.nd rfl (Or.inl rfl) (pe_op (kAdd K) pe_int (pe_call (ok__law_draw T) (hr.mono (by decide)) (by rfl) T.g__law_draw T.F__law_draw.kp T.b__law_draw .nil pass0 (pa_cons (pv 0) (pa_cons (pv 1) (pa_cons (pe_call (ok__law_pick T) (hr.mono (by decide)) (by rfl) T.g__law_pick T.F__law_pick.kp T.b__law_pick .nil pass0 (pa_cons (pv 0) (pa_cons (pv 1) (pa_cons (pe_lst (pa_cons pe_int (pa_cons pe_int (pa_cons (pv 3) pa_nil)))) pa_nil)))) pa_nil)))))) (pss_cons (ps_set (i := 4) sc__law_cut.nd rfl (Or.inl rfl) (pe_call (ok__law_pick T) (hr.mono (by decide)) (by rfl) T.g__law_pick T.F__law_pick.kp T.b__law_pick .nil pass0 (pa_cons (pv 0) (pa_cons (pv 1) (pa_cons (pe_lst (pa_cons pe_non (pa_cons (pv 4) (pa_cons (pv 4) (pa_cons (pe_op op_sub pe_int (pv 4)) (pa_cons (pe_op op_sub pe_int (pv 4)) pa_nil)))))) pa_nil))))) (pss_one (ps_ret (pe_tup (pa_cons (pe_call (ok__law_edge T) (hr.mono (by decide)) (by rfl) T.g__law_edge T.F__law_edge.kp T.b__law_edge .nil pass0 (pa_cons (pv 0) (pa_cons (pv 1) (pa_cons (pv 2) pa_nil)))) (pa_cons (pe_call (ok__law_edge T) (hr.mono (by decide)) (by rfl) T.g__law_edge T.F__law_edge.kp T.b__law_edge .nil pass0 (pa_cons (pv 0) (pa_cons (pv 1) (pa_cons (pv 2) pa_nil)))) (pa_cons (pv 4) pa_nil)))))))), ?_⟩
  try dsimp only [cxOf]
  rintro ds m Q X0 ⟨ns, t, top, wide, j, tw, c, rfl, hm, ht, hc, h1, h2, h3, h4, q⟩
  walk_at "d0"
  have hjl : j < m.length := (List.getElem?_eq_some_iff.mp hm).1
  have hms : ∀ tw' : List Int, (m.set j (t, MO.lst (tw'.map D.int)))[j]? = some (t, MO.lst (tw'.map D.int)) := fun tw' => List.getElem?_set_self hjl
  walk_at "g"
  refine in__law_pick j hm ht (by omega) (by simp) (by simp) fun i x tw1 ht1 hx => ?_
  obtain ⟨mm, rfl, m1, m2⟩ : ∃ mm : Int, x = .int mm ∧ 1 ≤ mm ∧ mm ≤ max 3 wide := by
    match i, hx with
    | 0, hx => cases hx; exact ⟨_, rfl, by omega, by omega⟩
    | 1, hx => cases hx; exact ⟨_, rfl, by omega, by omega⟩
    | 2, hx => cases hx; exact ⟨_, rfl, by omega, by omega⟩
  walk_at "g"
  refine in__law_draw j (hms tw1) ht1 (by omega) (by omega) (by omega) fun st tw2 ht2 s0 s1 => ?_
  rw [mset]
  walk_at "g"
  refine in__law_pick j (hms tw2) ht2 (by omega) (by simp) (by simp) fun i x tw3 ht3 hx => ?_
  rw [mset]
  obtain ⟨os, rfl, hos⟩ : ∃ os : Option Int, x = oi os ∧ ∀ i, os = some i → i ≠ 0 ∧ -(max 3 wide) ≤ i ∧ i ≤ max 3 wide := by
    match i, hx with
    | 0, hx => cases hx; exact ⟨none, rfl, fun i e => by cases e⟩
    | 1, hx => cases hx; exact ⟨some _, rfl, fun i e => by cases e; omega⟩
    | 2, hx => cases hx; exact ⟨some _, rfl, fun i e => by cases e; omega⟩
    | 3, hx => cases hx; exact ⟨some _, rfl, fun i e => by cases e; omega⟩
    | 4, hx => cases hx; exact ⟨some _, rfl, fun i e => by cases e; omega⟩
  walk_at "g"
  refine in__law_edge j (hms tw3) ht3 (by omega) h1 h2 fun o1 tw4 c4 hc4 ht4 ho1 => ?_
  rw [mset]
  walk_at "g"
  refine in__law_edge j (hms tw4) ht4 (by omega) h1 h2 fun o2 tw5 c5 hc5 ht5 ho2 => ?_
  rw [mset]
  walk_at "g"
  exact q (o1, o2, os) tw5 c5 (by omega) ht5 ⟨ho1, ho2, hos⟩

/-! #### _law_ends -/
def T__law_ends : TD := fun ds m Q _ => ∃ c l, ds = [cutD c, .int l] ∧ c.2.2 ≠ some 0 ∧ 0 ≤ l ∧ Q (spnD (endsM c l)) m
theorem in__law_ends {c : Cut} {l : Int} {m : M} {Q : D → M → Prop} {X : XD} (hz : c.2.2 ≠ some 0) (hl : 0 ≤ l) (q : Q (spnD (endsM c l)) m) : T__law_ends [cutD c, .int l] m Q X := ⟨_, _, rfl, hz, hl, q⟩
local macro_rules | `(tactic| walk_at "gcall") => `(tactic| ((with_reducible refine in__law_ends ?ha ?hb ?_); (case ha => first | assumption | exact CutOk.z (by assumption)); (case hb => omega)))
theorem edge_alike (n : Int) {l lo hi : Int} (h : lo ≤ hi) : (if hi < (if lo > (if n < 0 then n + l else n) then lo else (if n < 0 then n + l else n)) then hi else (if lo > (if n < 0 then n + l else n) then lo else (if n < 0 then n + l else n))) = mx lo (mn hi (if n < 0 then n + l else n)) := by
  unfold mx mn
  generalize (if n < 0 then n + l else n) = k
  split <;> split <;> split <;> omega
theorem ok__law_ends (T : Tx K mg) : FnOk P w K mg base CX0 1 T.f__law_ends T.fd__law_ends ["cut", "long"] (spOf T__law_ends) := by
  refine fn_ok (n := 8) rfl T.F__law_ends sc__law_ends (fun ds m Q X0 h => by repeat (first | (obtain ⟨e, _⟩ := h; subst e; rfl; done) | obtain ⟨_, h⟩ := h)) fun cdv A outer s H E hr => ⟨_, (pss_cons (ps_set (i := 2) sc__law_ends.nd rfl (Or.inl rfl) (pe_ifExp (pt_cmpR op_isN (pe_ix (kIx K) (pv 0) pe_int (fun _ _ => rfl)) pe_non (nomark _)) pe_int (pe_ix (kIx K) (pv 0) pe_int (fun _ _ => rfl)))) (pss_cons (ps_set (i := 3) sc__law_ends.nd rfl (Or.inl rfl) (pe_ifExp (pt_cmpR op_gt (pv 2) pe_int (nomark _)) pe_int (pe_un un_neg pe_int))) (pss_cons (ps_set (i := 4) sc__law_ends.nd rfl (Or.inl rfl) (pe_ifExp (pt_cmpR op_gt (pv 2) pe_int (nomark _)) (pv 1) (pe_op op_sub (pv 1) pe_int))) (pss_cons (ps_set (i := 5) sc__law_ends.nd rfl (Or.inl rfl) (pe_lstM pa_nil)) (pss_cons (ps_for PassesOwn.never rfl (kiTup K (pe_tup (pa_cons (pe_tup (pa_cons (pe_ix (kIx K) (pv 0) pe_int (fun _ _ => rfl)) (pa_cons (pe_ifExp (pt_cmpR op_gt (pv 2) pe_int (nomark _)) pe_int (pe_op op_sub (pv 1) pe_int)) pa_nil))) (pa_cons (pe_tup (pa_cons (pe_ix (kIx K) (pv 0) pe_int (fun _ _ => rfl)) (pa_cons (pe_ifExp (pt_cmpR op_gt (pv 2) pe_int (nomark _)) (pv 1) (pe_un un_neg pe_int)) pa_nil))) pa_nil)))) (kTup K (n := 2) (by rfl) (pgs_cons (pg_name (i := 6) sc__law_ends.nd rfl (Or.inl rfl)) (pgs_cons (pg_name (i := 7) sc__law_ends.nd rfl (Or.inl rfl)) pgs_nil))) (pss_one (ps_if (pt_cmpR op_isN (pv 6) pe_non (nomark _)) (pss_one (ps_expr (kBm K PySem.F.plainAttrs_list PySem.F.slot_list_append PySem.F.type_list_append mt_append (pv 5) (pa_cons (pv 7) pa_nil)))) (pss_cons (ps_set (i := 6) sc__law_ends.nd rfl (Or.inl rfl) (pe_ifExp (pt_cmpR op_lt (pv 6) pe_int (nomark _)) (pe_op (kAdd K) (pv 6) (pv 1)) (pv 6))) (pss_one (ps_expr (kBm K PySem.F.plainAttrs_list PySem.F.slot_list_append PySem.F.type_list_append mt_append (pv 5) (pa_cons (pe_callB (call_min2 rfl) (by rfl) T.z_min PyProof.Rows.boot_min (pa_cons (pe_callB (call_max2 rfl) (by rfl) T.z_max PyProof.Rows.boot_max (pa_cons (pv 6) (pa_cons (pv 3) pa_nil))) (pa_cons (pv 4) pa_nil))) pa_nil)))))))) (pss_one (ps_ret (pe_tup (pa_cons (pe_ix (kIx K) (pv 5) pe_int (fun _ _ => rfl)) (pa_cons (pe_ix (kIx K) (pv 5) pe_int (fun _ _ => rfl)) (pa_cons (pv 2) pa_nil))))))))))), ?_⟩
  try dsimp only [cxOf]
  rintro ds m Q X0 ⟨⟨b, e, st⟩, l, rfl, hz, hl, q⟩
  walk_at "d0"
  have key : ∀ (s lo hi pb pe : Int), lo ≤ hi → endsM (b, e, st) l = (edgeM b l pb lo hi, edgeM e l pe lo hi, s) → ∀ p, p ∉ dom m → ∀ (g : TG) (tb : TS), g = gTup K 2 (gCons (gName 6) (gCons (gName 7) gNil)) →
      (∀ n pl acc x6 x7 (E : De), acc.length < 2 → (∀ y6 y7, E.nx [some (cutD (b, e, st)), some (.int l), some (.int s), some (.int lo), some (.int hi), some (.ref p), y6, y7] ((p, MO.lst (acc ++ [.int (edgeM n l pl lo hi)])) :: m)) → gg xc0 g (.tup [oi n, .int pl]) [some (cutD (b, e, st)), some (.int l), some (.int s), some (.int lo), some (.int hi), some (.ref p), x6, x7] ((p, MO.lst acc) :: m) fun d2 m2 => gs xc0 tb E d2 m2) →
      gfor xc0 g tb { nx := gs xc0 (tRet (tTup (tCons (tOp (rIx K) (tVar 5) (tC (V.int 0))) (tCons (tOp (rIx K) (tVar 5) (tC (V.int 1))) (tCons (tVar 2) tNil))))) { nx := fun x m' => Q D.non m', rt := Q }, rt := Q } [.tup [oi b, .int pb], .tup [oi e, .int pe]] [some (cutD (b, e, st)), some (.int l), some (.int s), some (.int lo), some (.int hi), some (.ref p), none, none] ((p, MO.lst []) :: m) := by
    intro s lo hi pb pe hlo he p hp g tb hg turn
    refine gfor_cons ?_
    refine turn b pb [] none none _ (by decide) fun y6 y7 => ?_
    refine gfor_cons ?_
    refine turn e pe [.int (edgeM b l pb lo hi)] y6 y7 _ (by simp) fun z6 z7 => ?_
    with_reducible refine gfor_nil ?_
    refine gs_retZ ?_
    walk_at "g"
    refine ⟨_, _, .drop (.refl _ _), ?_⟩
    rw [he] at q
    exact q
  have turn : ∀ (s lo hi : Int), lo ≤ hi → ∀ p, p ∉ dom m → ∀ n pl acc x6 x7 (E : De), acc.length < 2 → (∀ y6 y7, E.nx [some (cutD (b, e, st)), some (.int l), some (.int s), some (.int lo), some (.int hi), some (.ref p), y6, y7] ((p, MO.lst (acc ++ [.int (edgeM n l pl lo hi)])) :: m)) → gg xc0 (gTup K 2 (gCons (gName 6) (gCons (gName 7) gNil))) (.tup [oi n, .int pl]) [some (cutD (b, e, st)), some (.int l), some (.int s), some (.int lo), some (.int hi), some (.ref p), x6, x7] ((p, MO.lst acc) :: m) fun d2 m2 => gs xc0 (tIfS (tTest (tOp (fun x y H Q => y = V.non ∧ Q (V.bl (decide (x = V.non))) H) (tVar 6) (tC V.non)))
              (tDrop (tBM K "list" rAppend (tVar 5) (tCons (tVar 7) tNil)))
              (tSeq
                (tAsg
                  (tIf (tTest (tOp (rI0 fun i j => V.bl (decide (i < j))) (tVar 6) (tC (V.int 0))))
                    (tOp (rAddP K) (tVar 6) (tVar 1)) (tVar 6))
                  (gName 6))
                (tDrop
                  (tBM K "list" rAppend (tVar 5)
                    (tCons
                      (tCB (fun xs H Q => ∃ i j, xs = [V.int i, V.int j] ∧ Q (V.int (if j < i then j else i)) H)
                        (tCons
                          (tCB (fun xs H Q => ∃ i j, xs = [V.int i, V.int j] ∧ Q (V.int (if j > i then j else i)) H)
                            (tCons (tVar 6) (tCons (tVar 3) tNil)))
                          (tCons (tVar 4) tNil)))
                      tNil))))) E d2 m2 := by
    intro s lo hi hlo p hp n pl acc x6 x7 E ha hE
    cases n with
    | none =>
      walk_at "g"
      exact hE _ _
    | some n =>
      have ee := edge_alike n (l := l) hlo
      walk_at "g"
      refine ite_dec (fun hd => ?_) (fun hd => ?_)
      · walk_at "g"
        simp only [if_pos hd] at ee
        rw [ee]
        have h2 := hE (some (.int (n + l))) (some (.int pl))
        simp only [edgeM, if_pos hd] at h2
        exact h2
      · walk_at "g"
        simp only [if_neg hd] at ee
        rw [ee]
        have h2 := hE (some (.int n)) (some (.int pl))
        simp only [edgeM, if_neg hd] at h2
        exact h2
  cases st with
  | none =>
    walk_at "g"
    intro p hp
    refine gg_name ?_
    with_reducible refine gs_seq (gs_for (gi_tup ?_))
    walk_at "g"
    exact key 1 0 l 0 l hl rfl p hp _ _ rfl (turn 1 0 l hl p hp)
  | some s =>
    have hs : s ≠ 0 := fun z => hz (by rw [z])
    walk_at "g"
    refine ite_dec (fun hd => ?_) (fun hd => ?_)
    · walk_at "g"
      intro p hp
      refine gg_name ?_
      with_reducible refine gs_seq (gs_for (gi_tup ?_))
      walk_at "g"
      exact key s 0 l 0 l hl (by simp only [endsM, if_pos hd]) p hp _ _ rfl (turn s 0 l hl p hp)
    · walk_at "g"
      intro p hp
      refine gg_name ?_
      with_reducible refine gs_seq (gs_for (gi_tup ?_))
      walk_at "g"
      exact key s (-1) (l - 1) (l - 1) (-1) (by omega) (by simp only [endsM, if_neg hd]) p hp _ _ rfl (turn s (-1) (l - 1) (by omega) p hp)
/-! #### _law_took -/
def T__law_took : TD := fun ds m Q _ => ∃ c l, ds = [cutD c, .int l] ∧ CutOk c ∧ 0 ≤ l ∧ l ≤ 90000 ∧ Q (intsD (spanL (spanM c l))) m
theorem in__law_took {c : Cut} {l : Int} {m : M} {Q : D → M → Prop} {X : XD} (h : CutOk c) (h1 : 0 ≤ l) (h2 : l ≤ 90000) (q : Q (intsD (spanL (spanM c l))) m) : T__law_took [cutD c, .int l] m Q X := ⟨_, _, rfl, h, h1, h2, q⟩
local macro_rules | `(tactic| walk_at "gcall") => `(tactic| ((with_reducible refine in__law_took ?ha ?hb ?hc ?_); (case ha => assumption); (case hb => omega); (case hc => omega)))
theorem ok__law_took (T : Tx K mg) : FnOk P w K mg base CX0 2 T.f__law_took T.fd__law_took ["cut", "long"] (spOf T__law_took) := by
  refine fn_ok (n := 6) rfl T.F__law_took sc__law_took (fun ds m Q X0 h => by repeat (first | (obtain ⟨e, _⟩ := h; subst e; rfl; done) | obtain ⟨_, h⟩ := h)) fun cdv A outer s H E hr => ⟨_, (pss_cons (ps_asg (pe_call (ok__law_ends T) (hr.mono (by decide)) (by rfl) T.g__law_ends T.F__law_ends.kp T.b__law_ends .nil pass0 (pa_cons (pv 0) (pa_cons (pv 1) pa_nil))) (kTup K (n := 3) (by rfl) (pgs_cons (pg_name (i := 2) sc__law_took.nd rfl (Or.inl rfl)) (pgs_cons (pg_name (i := 3) sc__law_took.nd rfl (Or.inl rfl)) (pgs_cons (pg_name (i := 4) sc__law_took.nd rfl (Or.inl rfl)) pgs_nil))))) (pss_cons (ps_set (i := 5) sc__law_took.nd rfl (Or.inl rfl) (pe_lstM pa_nil)) (pss_cons (ps_while PassesOwn.never (PW.pt (pw_or (PW.pt (pw_and (pt_cmpR op_gt (pv 4) pe_int (nomark _)) (pw_and1 (pt_cmpR op_lt (pv 2) (pv 3) (nomark _))))) (pw_or1 (PW.pt (pw_and (pt_cmpR op_lt (pv 4) pe_int (nomark _)) (pw_and1 (pt_cmpR op_gt (pv 2) (pv 3) (nomark _)))))))) (pss_cons (ps_expr (kBm K PySem.F.plainAttrs_list PySem.F.slot_list_append PySem.F.type_list_append mt_append (pv 5) (pa_cons (pv 2) pa_nil))) (pss_one (ps_set (i := 2) sc__law_took.nd rfl (Or.inl rfl) (pe_op (kAdd K) (pv 2) (pv 4)))))) (pss_one (ps_ret (pv 5)))))), ?_⟩
  try dsimp only [cxOf]
  rintro ds m Q X0 ⟨c, l, rfl, h, h1, h2, q⟩
  walk_at "d0"
  obtain ⟨b, e, s, he, hs, hs1, hs2, hsp, hsn⟩ := ends_b h h1
  obtain ⟨n, n1, n2, n3⟩ := spanL_ends he hs
  have hnl : (n : Int) ≤ l := by
    have := (span_in h h1).nl
    rw [n2] at this
    exact this
  rw [n1] at q
  walk_at "st"
  rw [he]
  dsimp only
  walk_at "st"
  intro p hp
  walk_at "e"
  refine gs_seq ?_
  refine gs_while (fun k d' m' => ∃ i : Nat, i + k = n ∧ d' = [some (cutD c), some (.int l), some (.int (b + s * (i : Int))), some (.int e), some (.int s), some (.ref p)] ∧ m' = (p, MO.lst (((List.range i).map (fun k : Nat => b + s * (k : Int))).map D.int)) :: m) n ⟨0, by omega, by simp only [Int.ofNat_zero, Int.mul_zero, Int.add_zero] <;> rfl, rfl⟩ ?_
  rintro k d' m' ⟨i, hi, rfl, rfl⟩
  have turn := n3 i (by omega)
  by_cases hlt : i < n
  · have hc := turn.mpr hlt
    refine gt.mono (Q1 := fun bb m1 => bb = true ∧ m1 = (p, MO.lst (((List.range i).map (fun k : Nat => b + s * (k : Int))).map D.int)) :: m) ?_ fun bb m1 ⟨e1, e2⟩ => ?_
    · rcases hc with ⟨z1, z2⟩ | ⟨z1, z2⟩
      · walk_at "e"
        walk_at "bq"
      · walk_at "e"
        walk_at "bq"
    · subst e1 e2
      refine ite_t rfl ?_
      walk_at "st"
      refine ⟨_, _, rfl, by rw [List.length_map, List.length_map, List.length_range]; omega, ?_⟩
      walk_at "st"
      refine ⟨k - 1, by omega, i + 1, by omega, ?_, ?_⟩
      · have e3 : b + s * (i : Int) + s = b + s * ((i + 1 : Nat) : Int) := by
          rw [Int.natCast_add, Int.mul_add, Int.natCast_one, Int.mul_one, Int.add_assoc]
        rw [← e3] <;> rfl
      · rw [List.range_succ, List.map_append, List.map_append]
        rfl
  · have hc := fun z => hlt (turn.mp z)
    refine gt.mono (Q1 := fun bb m1 => bb = false ∧ m1 = (p, MO.lst (((List.range i).map (fun k : Nat => b + s * (k : Int))).map D.int)) :: m) ?_ fun bb m1 ⟨e1, e2⟩ => ?_
    · rcases Int.lt_or_gt_of_ne hs with z | z
      · have z2 : ¬ e < b + s * (i : Int) := fun z2 => hc (.inr ⟨z, z2⟩)
        walk_at "e"
        walk_at "bq"
      · have z2 : ¬ b + s * (i : Int) < e := fun z2 => hc (.inl ⟨z, z2⟩)
        walk_at "e"
        walk_at "bq"
    · subst e1 e2
      have ei : i = n := by omega
      subst ei
      refine ite_f rfl ?_
      refine gs_retZ ?_
      walk_at "g"
      refine ⟨_, _, .frz (.refl _ _), ?_⟩
      exact q

/-! #### is_places -/
def isPlB (y : D) (l : Int) : Bool := match y with | .lst es => decide (es.length ≤ 8) && es.all (fun x => isNum x 0 (l - 1)) | _ => false
def upB : List Int → List Bool
  | a :: b :: r => decide (a < b) :: upB (b :: r)
  | _ => []
def riseB (ns : List Int) : Bool := (upB ns).all id
theorem upB_zip (F : D → D) (hF : ∀ a b : Int, F (.tup [.int a, .int b]) = .bl (decide (a < b))) : ∀ ns : List Int, (zipD (ns.map D.int) ((ns.drop 1).map D.int)).map F = (upB ns).map D.bl
  | [] => rfl
  | [a] => rfl
  | a :: b :: r => by
    have ih := upB_zip F hF (b :: r)
    show F (.tup [.int a, .int b]) :: (zipD ((b :: r).map D.int) (((b :: r).drop 1).map D.int)).map F = .bl (decide (a < b)) :: (upB (b :: r)).map D.bl
    rw [ih, hF]
theorem riseB_iff : ∀ {ns : List Int}, riseB ns = true ↔ ns.Pairwise (· < ·)
  | [] => ⟨fun _ => .nil, fun _ => rfl⟩
  | [a] => ⟨fun _ => List.pairwise_singleton _ _, fun _ => rfl⟩
  | a :: b :: r => by
    have ih := riseB_iff (ns := b :: r)
    have e : riseB (a :: b :: r) = (decide (a < b) && riseB (b :: r)) := by
      unfold riseB
      rw [upB, List.all_cons]
      rfl
    rw [e, Bool.and_eq_true, decide_eq_true_eq, ih]
    constructor
    · rintro ⟨h1, h2⟩
      refine List.pairwise_cons.mpr ⟨fun x hx => ?_, h2⟩
      rcases List.mem_cons.mp hx with e | hx
      · rw [e]; exact h1
      · have := (List.pairwise_cons.mp h2).1 x hx; omega
    · intro h
      exact ⟨(List.pairwise_cons.mp h).1 b List.mem_cons_self, (List.pairwise_cons.mp h).2⟩
def T_is_places : TD := fun ds m Q _ => ∃ y l, ds = [y, .int l] ∧ Arg y ∧ ((isPlB y l = false ∧ Q (.bl false) m) ∨ ∃ ns : List Int, y = intsD ns ∧ ns.length ≤ 8 ∧ (∀ x ∈ ns, 0 ≤ x ∧ x < l) ∧ Q (.bl (riseB ns)) m)
theorem ok_is_places (T : Tx K mg) : FnOk P w K mg base CX0 2 T.f_is_places T.fd_is_places ["thing", "long"] (spOf T_is_places) := by
  refine fn_ok (n := 4) rfl T.F_is_places sc_is_places (fun ds m Q X0 h => by repeat (first | (obtain ⟨e, _⟩ := h; subst e; rfl; done) | obtain ⟨_, h⟩ := h)) fun cdv A outer s H E hr => ⟨_, (pss_cons (ps_if (PW.pt (pw_or (pt_not (pt_val (pe_callB (kIsi K) (by rfl) T.z_isinstance PyProof.Rows.boot_isinstance (pa_cons (pv 0) (pa_cons (pe_bltn (v := .ty "list") (by rfl) T.z_list (by decide +kernel) rfl) pa_nil))))) (pw_or (pt_cmpR op_gt (pe_callB (kLen K) (by rfl) T.z_len PySem.boot_len (pa_cons (pv 0) pa_nil)) pe_int (nomark _)) (pw_or1 (pt_not (pt_val (pe_callB (kAll K rfl) (by rfl) T.z_all PyProof.Rows.boot_all (pa_cons (pe_lc (own := [("one", 2)]) (by rfl) sc_is_places.nd (kiList K (pv 0)) (blkOk_by (own := [("one", 2)]) (N := N_is_places) (sc := defScope s_is_places) (by decide +kernel)) (fun _ _ _ _ _ => pg_name (i := 2) sc_is_places.nd rfl (Or.inl rfl)) (fun _ _ _ _ _ => pts_nil) (fun _ _ _ _ _ => (pe_call (ok_is_number T) (hr.mono (by decide)) (by rfl) T.g_is_number T.F_is_number.kp T.b_is_number .nil pass0 (pa_cons (pv 2) (pa_cons pe_int (pa_cons (pe_op op_sub (pv 1) pe_int) pa_nil)))))) pa_nil)))))))) (pss_one (ps_ret pe_bl)) pss_nil) (pss_one (ps_ret (pe_callB (kAll K rfl) (by rfl) T.z_all PyProof.Rows.boot_all (pa_cons (pe_lc (own := [("one", 2), ("other", 3)]) (by rfl) sc_is_places.nd (kiZip K (by rfl) T.z_zip (pa_cons (pv 0) (pa_cons (pe_slice (kSl K) (pv 0) (po_some pe_int) po_none) pa_nil))) (blkOk_by (own := [("one", 2), ("other", 3)]) (N := N_is_places) (sc := defScope s_is_places) (by decide +kernel)) (fun _ _ _ _ _ => kTup K (n := 2) (by rfl) (pgs_cons (pg_name (i := 2) sc_is_places.nd rfl (Or.inl rfl)) (pgs_cons (pg_name (i := 3) sc_is_places.nd rfl (Or.inl rfl)) pgs_nil))) (fun _ _ _ _ _ => pts_nil) (fun _ _ _ _ _ => (pe_cmpR op_lt (pv 2) (pv 3) (nomark _)))) pa_nil))))), ?_⟩
  try dsimp only [cxOf]
  rintro ds m Q X0 ⟨y, l, rfl, ay, h⟩
  walk_at "d0"
  rcases h with ⟨hx, q⟩ | ⟨ns, rfl, hl, hn, q⟩
  · cases y with
    | lst es =>
      have hes : Shs 59 es := by
        rcases ay with a | a
        · cases a with | lst h => exact h
        · cases a
      have hx : (decide (es.length ≤ 8) && es.all (fun x => isNum x 0 (l - 1))) = false := hx
      walk_at "g"
      refine ite_dec (fun z => ?_) (fun z => ?_)
      · walk_at "g"
        exact q
      · rw [decide_eq_true (by omega), Bool.true_and] at hx
        walk_at "g"
        intro p hp
        refine glc_map (fun x => .bl (isNum x 0 (l - 1))) es (by omega) (fun x hx acc => ?_) ?_
        · have ax : Arg x := .inl ((hes.mem hx).le (by decide))
          walk_at "g"
          exact ⟨rfl, rfl⟩
        · rw [show es.map (fun x => D.bl (isNum x 0 (l - 1))) = (es.map (fun x => isNum x 0 (l - 1))).map D.bl from (List.map_map ..).symm]
          refine ga_nil (gc_all ?_)
          rw [List.all_map]
          rw [show es.all (id ∘ fun x => isNum x 0 (l - 1)) = false from hx]
          walk_at "g"
          exact q
    | _ => all_goals (walk_at "g"; first | exact q | (refine gc_isLst ay ?_; walk_at "g"; exact q))
  have hnum : (ns.map D.int).all (fun x => isNum x 0 (l - 1)) = true := by
    rw [List.all_eq_true]
    intro x hx
    obtain ⟨c, hc, e⟩ := List.mem_map.mp hx
    rw [← e]
    have := hn c hc
    exact isNum_of this.1 (by omega)
  refine gs_bad ?_ ?_
  · walk_at "e"
    intro p hp
    refine glc_map (fun x => .bl (isNum x 0 (l - 1))) (ns.map D.int) (by rw [List.length_map]; omega) (fun x hx acc => ?_) ?_
    · have ax : Arg x := by
        obtain ⟨c, hc, e⟩ := List.mem_map.mp hx
        rw [← e]
        exact .inl (.int _ _)
      walk_at "e"
      exact ⟨rfl, rfl⟩
    · rw [show (ns.map D.int).map (fun x => D.bl (isNum x 0 (l - 1))) = ((ns.map D.int).map (fun x => isNum x 0 (l - 1))).map D.bl from (List.map_map ..).symm]
      refine ga_nil (gc_all ?_)
      rw [List.all_map]
      rw [show (ns.map D.int).all (id ∘ fun x => isNum x 0 (l - 1)) = true from hnum]
      walk_at "e"
      walk_at "bq"
  refine gs_ret ?_
  walk_at "e"
  rw [cutL_drop ns (by decide)]
  intro p hp
  refine glc_map (fun x => match x with | .tup [.int a, .int b] => .bl (decide (a < b)) | _ => .non) _ (by unfold zipD; rw [List.length_zipWith, List.length_map]; omega) (fun x hx acc => ?_) ?_
  · unfold zipD at hx
    obtain ⟨i, hi, e⟩ := List.mem_iff_getElem.mp hx
    rw [List.getElem_zipWith, List.getElem_map, List.getElem_map] at e
    subst e
    walk_at "e"
    exact ⟨rfl, rfl⟩
  · rw [show (Int.toNat 1) = 1 from rfl, upB_zip _ (fun a b => rfl) ns]
    refine ga_nil (gc_all ?_)
    exact q
/-! #### rows_from -/
def T_rows_from : TD := fun ds m Q _ => ∃ (ns : List Int) (l : Int), ds = [intsD ns] ∧ ns ≠ [] ∧ ns.length ≤ 8 ∧ ns.Pairwise (· < ·) ∧ (∀ x ∈ ns, 0 ≤ x ∧ x < l) ∧ l ≤ 40 ∧ ∀ found : List Spn, FoundOk l ns found → Q (.lst (found.map spnD)) m
theorem in_rows_from {ns : List Int} {l : Int} {m : M} {Q : D → M → Prop} {X : XD} (h0 : ns ≠ []) (h1 : ns.length ≤ 8) (h2 : ns.Pairwise (· < ·)) (h3 : ∀ x ∈ ns, 0 ≤ x ∧ x < l) (h4 : l ≤ 40) (q : ∀ found : List Spn, FoundOk l ns found → Q (.lst (found.map spnD)) m) : T_rows_from [intsD ns] m Q X := ⟨ns, l, rfl, h0, h1, h2, h3, h4, q⟩
theorem from_ok {l a s : Int} {r : List Int} {n : Nat} (hs : 1 ≤ s) (hs2 : s < 40) (h3 : ∀ x ∈ a :: r, 0 ≤ x ∧ x < l) (hn : 2 ≤ n) (hm : ∀ t : Nat, t < n → a + s * (t : Int) ∈ a :: r) : FromOk l (a :: r) (a, s, (n : Int)) := by
  have hb : ∀ t : Nat, t < n → (t : Int) ≤ s * (t : Int) := fun t _ => by
    have : 1 * (t : Int) ≤ s * (t : Int) := Int.mul_le_mul_of_nonneg_right hs (by omega)
    omega
  have hl : (n : Int) ≤ l := by
    have h1 := (h3 _ (hm (n - 1) (by omega))).2
    have h2 := hb (n - 1) (by omega)
    have h4 := (h3 a List.mem_cons_self).1
    omega
  refine ⟨⟨⟨a, r, spanL (a + s, s, ((n - 1 : Nat) : Int)), rfl, ?_⟩, ⟨s, hs, stepB_spanL s n a⟩, fun x hx => ?_⟩, ?_⟩
  · rw [show n = n - 1 + 1 by omega, spanL_cons]
    rfl
  · obtain ⟨k, hk, e⟩ := spanL_mem.mp hx
    have hk : k < n := by simpa using hk
    rw [e]
    exact hm k hk
  · refine ⟨by show (0 : Int) ≤ n; omega, hl, by show -1000000000 ≤ s ∧ s ≤ 1000000000; omega, fun i hi => ?_, fun z => ?_, fun z => ?_, by show s ≠ 0; omega⟩
    · have hi : (i : Int) < n := hi
      exact h3 _ (hm i (by omega))
    · have z : (n : Int) = 0 := z
      omega
    · have z : (n : Int) = 1 := z
      omega
theorem from_one {l a : Int} {r : List Int} (h3 : ∀ x ∈ a :: r, 0 ≤ x ∧ x < l) : FromOk l (a :: r) (a, 1, 1) := by
  have e : spanL (a, 1, 1) = [a] := by rw [show (a, (1 : Int), (1 : Int)) = (a, 1, ((0 + 1 : Nat) : Int)) from rfl, spanL_cons]; rfl
  have h := h3 a List.mem_cons_self
  refine ⟨by rw [e]; exact row1 a r, ⟨by show (0 : Int) ≤ 1; decide, by show (1 : Int) ≤ l; omega, by show (-1000000000 : Int) ≤ 1 ∧ (1 : Int) ≤ 1000000000; decide, fun i hi => ?_, fun z => ?_, fun _ => rfl, by show (1 : Int) ≠ 0; decide⟩⟩
  · have hi : (i : Int) < 1 := hi
    have : i = 0 := by omega
    subst this
    show 0 ≤ a + 1 * ((0 : Nat) : Int) ∧ a + 1 * ((0 : Nat) : Int) < l
    simp
    omega
  · cases z
theorem ok_rows_from (T : Tx K mg) : FnOk P w K mg base CX0 1 T.f_rows_from T.fd_rows_from ["places"] (spOf T_rows_from) := by
  refine fn_ok (n := 5) rfl T.F_rows_from sc_rows_from (fun ds m Q X0 h => by repeat (first | (obtain ⟨e, _⟩ := h; subst e; rfl; done) | obtain ⟨_, h⟩ := h)) fun cdv A outer s H E hr => ⟨_, (pss_cons (ps_set (i := 1) sc_rows_from.nd rfl (Or.inl rfl) (pe_lstM (pa_cons (pe_tup (pa_cons (pe_ix (kIx K) (pv 0) pe_int (fun _ _ => rfl)) (pa_cons pe_int (pa_cons pe_int pa_nil)))) pa_nil))) (pss_cons (ps_for PassesOwn.never rfl (kiList K (pe_slice (kSl K) (pv 0) (po_some pe_int) po_none)) (pg_name (i := 2) sc_rows_from.nd rfl (Or.inl rfl)) (pss_cons (ps_set (i := 3) sc_rows_from.nd rfl (Or.inl rfl) (pe_op op_sub (pv 2) (pe_ix (kIx K) (pv 0) pe_int (fun _ _ => rfl)))) (pss_cons (ps_set (i := 4) sc_rows_from.nd rfl (Or.inl rfl) pe_int) (pss_one (ps_while PassesOwn.never (pt_cmpR (kIn K) (pe_op (kAdd K) (pe_ix (kIx K) (pv 0) pe_int (fun _ _ => rfl)) (pe_op op_mulP (pv 3) (pv 4))) (pv 0) (by rfl)) (pss_cons (ps_aug (i := 4) sc_rows_from.nd rfl (Or.inl rfl) pe_int ip_add) (pss_one (ps_expr (kBm K PySem.F.plainAttrs_list PySem.F.slot_list_append PySem.F.type_list_append mt_append (pv 1) (pa_cons (pe_tup (pa_cons (pe_ix (kIx K) (pv 0) pe_int (fun _ _ => rfl)) (pa_cons (pv 3) (pa_cons (pv 4) pa_nil)))) pa_nil)))))))))) (pss_one (ps_ret (pv 1))))), ?_⟩
  try dsimp only [cxOf]
  rintro ds m Q X0 ⟨ns, l, rfl, h0, h1, h2, h3, h4, q⟩
  walk_at "d0"
  cases ns with
  | nil => exact absurd rfl h0
  | cons a r =>
  have ix0 : atI ((a :: r).map D.int) 0 = some (.int a) := atI_some (by decide) rfl
  walk_at "st"
  refine g2_ixPL ix0 ?_
  walk_at "e"
  intro p hp
  walk_at "e"
  refine gs_seq (gs_for (gi_list ?_))
  walk_at "e"
  rw [cutL_drop _ (by decide)]
  refine gfor_inv (fun i d' m' => ∃ (F : List Spn) (y2 y3 y4 : Option D), m' = (p, MO.lst (F.map spnD)) :: m ∧ d' = [some (intsD (a :: r)), some (.ref p), y2, y3, y4] ∧ (a, 1, 1) ∈ F ∧ (∀ x ∈ F, FromOk l (a :: r) x) ∧ F.length ≤ 1 + 40 * i ∧ ∀ i' b, i' < i → r[i']? = some b → ∀ n : Nat, 2 ≤ n → (∀ t : Nat, t < n → a + (b - a) * (t : Int) ∈ a :: r) → (a, b - a, (n : Int)) ∈ F) _ (fun i x d' m' hx hP => ?_) (fun d' m' hP => ?_) ⟨[(a, 1, 1)], none, none, none, rfl, rfl, List.mem_cons_self, fun x hx => by rw [List.mem_singleton.mp hx]; exact from_one h3, by simp, fun i' b h => absurd h (by omega)⟩
  · obtain ⟨F, y2, y3, y4, rfl, rfl, f1, f2, f3, f4⟩ := hP
    rw [List.getElem?_map] at hx
    obtain ⟨b, hb, e⟩ := Option.map_eq_some_iff.mp hx
    subst e
    have hb : r[i]? = some b := by simpa using hb
    have hbr := List.mem_of_getElem? hb
    have hab := (List.pairwise_cons.mp h2).1 b hbr
    have hb3 := h3 b (List.mem_cons_of_mem _ hbr)
    have ha3 := h3 a List.mem_cons_self
    have hi : i < r.length := (List.getElem?_eq_some_iff.mp hb).1
    rw [List.length_cons] at h1
    walk_at "e"
    refine gs_seq (gs_asg ?_)
    walk_at "e"
    refine g2_ixPL ix0 ?_
    walk_at "e"
    refine gs_seq (gs_asg ?_)
    walk_at "e"
    refine gs_while (fun w d' m' => ∃ n : Nat, w + n = 42 ∧ 1 ≤ n ∧ n ≤ 40 ∧ (∀ t : Nat, t < n → a + (b - a) * (t : Int) ∈ a :: r) ∧ m' = (p, MO.lst ((F ++ (List.range (n - 1)).map fun t : Nat => (a, b - a, ((t + 2 : Nat) : Int))).map spnD)) :: m ∧ d' = [some (intsD (a :: r)), some (.ref p), some (.int b), some (.int (b - a)), some (.int (n : Int))]) 41 ⟨1, rfl, by omega, by omega, fun t ht => ?_, ?_, rfl⟩ ?_
    · have : t = 0 := by omega
      subst this
      simp
    · show _ = (p, MO.lst ((F ++ []).map spnD)) :: m
      rw [List.append_nil]
    · rintro w d' m' ⟨n, hw, n1, n2, hn, rfl, rfl⟩
      walk_at "e"
      refine g2_ixPL ix0 ?_
      walk_at "e"
      refine ite_dec (fun hin => ?_) (fun hout => ?_)
      · have hle : (b - a) * (n : Int) < 40 := by
          have := (h3 _ hin).2
          omega
        have hge : (n : Int) ≤ (b - a) * (n : Int) := by
          have : 1 * (n : Int) ≤ (b - a) * (n : Int) := Int.mul_le_mul_of_nonneg_right (by omega) (by omega)
          omega
        walk_at "st"
        walk_at "st"
        refine g2_ixPL ix0 ?_
        walk_at "e"
        refine ex_cell2 (by simp only [List.length_map, List.length_append, List.length_range]; omega) ?_
        walk_at "e"
        refine ⟨w - 1, by omega, n + 1, by omega, by omega, by omega, fun t ht => ?_, ?_, ?_⟩
        · by_cases z : t < n
          · exact hn t z
          · rw [show t = n by omega]
            exact hin
        · have e9 : ((n - 1 + 2 : Nat) : Int) = (n : Int) + 1 := by omega
          rw [show n + 1 - 1 = (n - 1) + 1 by omega, List.range_succ]
          simp only [List.map_append, List.map_cons, List.map_nil, List.append_assoc, e9]
        · rw [Int.natCast_add]
          rfl
      · refine ⟨F ++ (List.range (n - 1)).map fun t : Nat => (a, b - a, ((t + 2 : Nat) : Int)), some (.int b), some (.int (b - a)), some (.int (n : Int)), rfl, rfl, List.mem_append_left _ f1, fun x hx => ?_, ?_, fun i' b' hi' hb' n' hn' ht' => ?_⟩
        · rcases List.mem_append.mp hx with hx | hx
          · exact f2 x hx
          · obtain ⟨t, ht, e⟩ := List.mem_map.mp hx
            have ht := List.mem_range.mp ht
            rw [← e]
            exact from_ok (by omega) (by omega) h3 (by omega) fun k hk => hn k (by omega)
        · rw [List.length_append, List.length_map, List.length_range]
          omega
        · by_cases z : i' < i
          · exact List.mem_append_left _ (f4 i' b' z hb' n' hn' ht')
          · have e : i' = i := by omega
            subst e
            have e2 : b = b' := Option.some.inj (hb.symm.trans hb')
            subst e2
            have hle : n' ≤ n := by
              by_cases y : n < n'
              · exact absurd (ht' n y) hout
              · omega
            exact List.mem_append_right _ (List.mem_map.mpr ⟨n' - 2, List.mem_range.mpr (by omega), by rw [show n' - 2 + 2 = n' by omega]⟩)
  · obtain ⟨F, y2, y3, y4, rfl, rfl, f1, f2, f3, f4⟩ := hP
    refine gs_retZ ?_
    walk_at "e"
    refine ⟨_, _, .frz (.refl _ _), ?_⟩
    refine q F ⟨f2, fun row hrow => ?_, ?_, fun z => by rw [z] at f1; cases f1⟩
    · obtain ⟨a', r', t, e1, e2⟩ := hrow.hd
      obtain ⟨s, s1, s2⟩ := hrow.st
      cases e1
      subst e2
      have e := stepB_of t a s s2
      cases t with
      | nil => exact ⟨(a, 1, 1), f1, by rw [show (a, (1 : Int), (1 : Int)) = (a, 1, ((0 + 1 : Nat) : Int)) from rfl, spanL_cons]; rfl⟩
      | cons b t =>
        have hb : b = a + s := by
          simp only [stepB, Bool.and_eq_true, decide_eq_true_eq] at s2
          exact s2.1
        have hbm : b ∈ r := by
          rcases List.mem_cons.mp (hrow.sub b (List.mem_cons_of_mem _ List.mem_cons_self)) with z | z
          · omega
          · exact z
        obtain ⟨j, hj, ej⟩ := List.mem_iff_getElem.mp hbm
        refine ⟨(a, b - a, (((b :: t).length + 1 : Nat) : Int)), f4 j b (by simpa using hj) (by rw [List.getElem?_eq_getElem hj, ej]) ((b :: t).length + 1) (by simp) (fun k hk => ?_), ?_⟩
        · refine hrow.sub _ ?_
          rw [e, show b - a = s by omega]
          exact spanL_mem.mpr ⟨k, by show k < (((b :: t).length + 1 : Nat) : Int).toNat; rw [Int.toNat_natCast]; exact hk, rfl⟩
        · rw [show b - a = s by omega, ← e]
    · have : (List.map D.int (List.drop (Int.toNat 1) (a :: r))).length = r.length := by simp
      rw [List.length_cons] at h1
      omega
/-! #### fewest_of -/
def T_fewest_of : Nat → TD
  | 0 => fun _ _ _ _ => False
  | n + 1 => fun ds m Q _ => ∃ (ns all : List Int) (l : Int) (p : Addr) (kvs : List (List Key × D)) (m0 : M), ds = [intsD ns, .ref p] ∧ m = (p, .dT kvs) :: m0 ∧ ns.length ≤ n ∧ ns.Pairwise (· < ·) ∧ (∀ x ∈ ns, x ∈ all) ∧ all.Pairwise (· < ·) ∧ all.length ≤ 8 ∧ (∀ x ∈ all, 0 ≤ x ∧ x < l) ∧ l ≤ 40 ∧ KnownOk l all kvs ∧
    ∀ (best : List Spn) kvs', BestOk l ns best → KnownOk l all kvs' → (∀ ms : List Int, ns.length < ms.length → valD kvs' (keyT ms) = valD kvs (keyT ms)) → Q (.lst (best.map spnD)) ((p, .dT kvs') :: m0)
theorem best_len {l : Int} {ns : List Int} {best : List Spn} (b : BestOk l ns best) (h : ns.Pairwise (· < ·)) : best.length ≤ ns.length := b.few.2 _ (splits_all h)
theorem ok_fewest_of (T : Tx K mg) : ∀ n : Nat, FnOk P w K mg base CX0 (n + 2) T.f_fewest_of T.fd_fewest_of ["places", "known"] (spOf (T_fewest_of n)) := by
  intro n
  induction n
  · exact fn_none fun _ _ _ _ h => h.elim
  rename_i n ih
  refine fn_ok (n := 8) rfl T.F_fewest_of sc_fewest_of (fun ds m Q X0 h => by repeat (first | (obtain ⟨e, _⟩ := h; subst e; rfl; done) | obtain ⟨_, h⟩ := h)) fun cdv A outer s H E hr => ⟨_, (pss_cons (ps_set (i := 2) sc_fewest_of.nd rfl (Or.inl rfl) (pe_callTy (kTuple K) (by rfl) T.z_tuple PyProof.Rows.boot_tuple (pa_cons (pv 0) pa_nil))) (pss_cons (ps_if (pt_cmpR (kEq K hr.units) (pv 0) (pe_lst pa_nil) (nomark _)) (pss_one (ps_ret (pe_lst pa_nil))) pss_nil) (pss_cons (ps_if (pt_cmpR (kNinT hr.units) (pv 2) (pv 1) (by rfl)) (pss_cons (ps_set (i := 3) sc_fewest_of.nd rfl (Or.inl rfl) pe_non) (pss_cons (ps_for PassesOwn.never rfl (kiList K (pe_call (ok_rows_from T) (hr.mono (by omega)) (by rfl) T.g_rows_from T.F_rows_from.kp T.b_rows_from .nil pass0 (pa_cons (pv 0) pa_nil))) (pg_name (i := 4) sc_fewest_of.nd rfl (Or.inl rfl)) (pss_cons (ps_set (i := 5) sc_fewest_of.nd rfl (Or.inr rfl) (pe_call (ok_places_of T) (hr.mono (by omega)) (by rfl) T.g_places_of T.F_places_of.kp T.b_places_of .nil pass0 (pa_cons (pv 4) pa_nil))) (pss_cons (ps_set (i := 6) sc_fewest_of.nd rfl (Or.inl rfl) (pe_call ih (hr.mono (by omega)) (by rfl) T.g_fewest_of T.F_fewest_of.kp T.b_fewest_of .nil pass0 (pa_cons (pe_lc (own := [("place", 7)]) (by rfl) sc_fewest_of.nd (kiList K (pv 0)) (blkOk_by (own := [("place", 7)]) (N := N_fewest_of) (sc := defScope s_fewest_of) (by decide +kernel)) (fun _ _ _ _ _ => pg_name (i := 7) sc_fewest_of.nd rfl (Or.inl rfl)) (fun _ _ _ _ _ => (pts_one (pt_cmpR (kNotIn K) (pv 7) (pv 5) (by rfl)))) (fun _ _ _ _ _ => (pv 7))) (pa_cons (pv 1) pa_nil)))) (pss_one (ps_if (PW.pt (pw_or (pt_cmpR op_isN (pv 3) pe_non (nomark _)) (pw_or1 (pt_cmpR op_lt (pe_op (kAdd K) (pe_callB (kLen K) (by rfl) T.z_len PySem.boot_len (pa_cons (pv 6) pa_nil)) pe_int) (pe_callB (kLen K) (by rfl) T.z_len PySem.boot_len (pa_cons (pv 3) pa_nil)) (nomark _))))) (pss_one (ps_set (i := 3) sc_fewest_of.nd rfl (Or.inl rfl) (pe_op (kAdd K) (pe_lst (pa_cons (pv 4) pa_nil)) (pv 6)))) pss_nil))))) (pss_one (ps_asg (pv 3) (pg_sub (pv 1) (pv 2) (set_dT hr.units)))))) pss_nil) (pss_one (ps_ret (kDget hr.units (pv 1) (pv 2) (fun _ _ => rfl))))))), ?_⟩
  try dsimp only [cxOf]
  rintro ds m Q X0 ⟨ns, all, l, p, kvs, m0, rfl, rfl, h1, h2, h3, h4, h5, h6, h7, hk, q⟩
  walk_at "d0"
  walk_at "st"
  cases ns with
  | nil =>
    refine gs_seq (gs_ifT ?_ ?_)
    · walk_at "e"
      exact ⟨rfl, rfl⟩
    · refine gs_ret ?_
      walk_at "e"
      exact q [] kvs (best_nil l) hk fun _ _ => rfl
  | cons a r =>
  rcases n with _ | n
  · exact absurd h1 (by simp)
  with_reducible refine gs_bad ?_ ?_
  · walk_at "e"
    exact ⟨rfl, rfl⟩
  cases hv : valD kvs (keyT (a :: r)) with
  | some x =>
    with_reducible refine gs_bad ?_ ?_
    · walk_at "e"
      refine g2_ninTT ?_
      walk_at "e"
      rw [hv]
      exact ⟨rfl, rfl⟩
    refine gs_ret (ge_dget ?_)
    walk_at "e"
    obtain ⟨best, rfl, hb⟩ := hk.get hv
    exact ⟨p, a :: r, kvs, _, m0, rfl, rfl, rfl, hv, q best kvs hb hk fun _ _ => rfl⟩
  | none =>
  refine gs_seq (gs_ifT ?_ ?_)
  · walk_at "e"
    refine g2_ninTT ?_
    walk_at "e"
    rw [hv]
    exact ⟨rfl, rfl⟩
  have hl8 : (a :: r).length ≤ 8 := by
    have h9 := sub_len h2 h4 h3
    omega
  refine gs_seq (gs_asg ?_)
  walk_at "e"
  refine gs_seq (gs_for (gi_list ?_))
  walk_at "e"
  refine in_rows_from (l := l) (by simp) hl8 h2 (fun x hx => h6 x (h3 x hx)) h7 fun found hf => ?_
  walk_at "e"
  refine gfor_inv (fun i d' m' => ∃ (kvs1 : List (List Key × D)) (y3 : D) (y4 y5 y6 : Option D), m' = (p, .dT kvs1) :: m0 ∧ KnownOk l all kvs1 ∧ (∀ ms : List Int, (a :: r).length ≤ ms.length → valD kvs1 (keyT ms) = valD kvs (keyT ms)) ∧ d' = [some (intsD (a :: r)), some (.ref p), some (tupI (a :: r)), some y3, y4, y5, y6, none] ∧
    ((i = 0 ∧ y3 = .non) ∨ ∃ best : List Spn, y3 = .lst (best.map spnD) ∧ (best.flatMap spanL).Perm (a :: r) ∧ (∀ x ∈ best, SpanN x l) ∧ Splits (a :: r) best.length ∧ ∀ x ∈ found.take i, ∀ j, Splits (outOf (spanL x) (a :: r)) j → best.length ≤ j + 1)) _ (fun i x d' m' hx hP => ?_) (fun d' m' hP => ?_) ⟨kvs, .non, none, none, none, rfl, hk, fun _ _ => rfl, rfl, .inl ⟨rfl, rfl⟩⟩
  · obtain ⟨kvs1, y3, y4, y5, y6, rfl, hk1, hkeep, rfl, hy⟩ := hP
    rw [List.getElem?_map] at hx
    obtain ⟨one, ho, e⟩ := Option.map_eq_some_iff.mp hx
    subst e
    have hom := List.mem_of_getElem? ho
    have hfr := hf.ok one hom
    have hle : (outOf (spanL one) (a :: r)).length < r.length + 1 := out_len hfr.row
    rw [List.length_cons] at hl8
    walk_at "e"
    refine gs_seq (gs_asg ?_)
    walk_at "e"
    refine in_places_of' hfr.inn (by omega) ?_
    walk_at "e"
    refine gs_seq (gs_asg ?_)
    walk_at "e"
    intro p' hp'
    refine glc_filterI (fun x => !decide (x ∈ spanL one)) (a :: r) (by rw [List.length_cons]; omega) (fun x hx acc => ?_) ?_
    · walk_at "e"
      refine ⟨rfl, rfl, ?_⟩
      walk_at "e"
      exact ⟨rfl, rfl⟩
    walk_at "e"
    refine ⟨outOf (spanL one) (a :: r), all, l, p, kvs1, m0, rfl, rfl, by rw [List.length_cons] at h1; omega, out_pw h2, fun x hx => h3 x (out_sub hx), h4, h5, h6, h7, hk1, fun rest kvs2 hb hk2 hkeep2 => ?_⟩
    have hnew := best_new h2 hfr hb
    have hrl := best_len hb (out_pw h2)
    have hkeep3 : ∀ ms : List Int, (a :: r).length ≤ ms.length → valD kvs2 (keyT ms) = valD kvs (keyT ms) := fun ms hms => by rw [hkeep2 ms (by rw [List.length_cons] at hms; omega), hkeep ms hms]
    walk_at "e"
    have tk : ∀ x, x ∈ found.take (i + 1) → x ∈ found.take i ∨ x = one := fun x hx => by
      rw [List.take_add_one, ho] at hx
      rcases List.mem_append.mp hx with h | h
      · exact .inl h
      · exact .inr (by simpa using h)
    rcases hy with ⟨e, rfl⟩ | ⟨best, rfl, g1, g2, g3, g4⟩
    · refine gs_ifT ?_ ?_
      · walk_at "e"
        exact ⟨rfl, rfl⟩
      refine gs_asg ?_
      walk_at "e"
      refine g2_addL (by rw [List.length_map]; exact Nat.le_trans (show 1 + rest.length ≤ 1000 by omega) (by decide)) ?_
      walk_at "e"
      refine ⟨kvs2, _, _, _, _, rfl, hk2, hkeep3, rfl, .inr ⟨one :: rest, rfl, hnew.1, hnew.2.1, hnew.2.2.1, fun x hx j hj => ?_⟩⟩
      rcases tk x hx with h | h
      · rw [e] at h
        cases h
      · rw [h] at hj
        exact hnew.2.2.2 j hj
    · refine gs_if ?_
      walk_at "e"
      refine ite_dec (fun z => ?_) (fun z => ?_)
      · refine gs_asg ?_
        walk_at "e"
        refine g2_addL (by rw [List.length_map]; exact Nat.le_trans (show 1 + rest.length ≤ 1000 by omega) (by decide)) ?_
        walk_at "e"
        refine ⟨kvs2, _, _, _, _, rfl, hk2, hkeep3, rfl, .inr ⟨one :: rest, rfl, hnew.1, hnew.2.1, hnew.2.2.1, fun x hx j hj => ?_⟩⟩
        rcases tk x hx with h | h
        · have h9 := g4 x h j hj
          rw [List.length_map, List.length_map] at z
          rw [List.length_cons]
          omega
        · rw [h] at hj
          exact hnew.2.2.2 j hj
      · refine gs_next ?_
        refine ⟨kvs2, _, _, _, _, rfl, hk2, hkeep3, rfl, .inr ⟨best, rfl, g1, g2, g3, fun x hx j hj => ?_⟩⟩
        rcases tk x hx with h | h
        · exact g4 x h j hj
        · rw [h] at hj
          have h9 := hnew.2.2.2 j hj
          rw [List.length_map, List.length_map] at z
          rw [List.length_cons] at h9
          omega
  · obtain ⟨kvs1, y3, y4, y5, y6, rfl, hk1, hkeep, rfl, hy⟩ := hP
    rw [List.length_map, List.take_length] at hy
    rcases hy with ⟨e, _⟩ | ⟨best, rfl, g1, g2, g3, g4⟩
    · exact absurd (List.length_eq_zero_iff.mp e) hf.ne
    have hb : BestOk l (a :: r) best := ⟨g1, g2, few_of hf (by simp) g3 g4⟩
    have hv1 : valD kvs1 (keyT (a :: r)) = none := by rw [hkeep _ (Nat.le_refl _), hv]
    have hkl := hk1.len h4 h5
    refine gs_asg ?_
    walk_at "e"
    refine gg_subT ?_
    walk_at "e"
    refine ⟨p, a :: r, kvs1, m0, rfl, rfl, rfl, hv1, by omega, ?_⟩
    show gs xc0 _ _ _ _
    refine gs_ret (ge_dget ?_)
    walk_at "e"
    refine ⟨p, a :: r, _, _, m0, rfl, rfl, rfl, by rw [valD_snoc _ _ _ _ hv1, if_pos rfl], q best _ hb (hk1.put hv1 hb h2 h3) fun ms hms => ?_⟩
    rw [valD_snoc _ _ _ _ hv1, if_neg (fun z => by have := keyT_inj z; rw [this] at hms; omega), hkeep ms (by omega)]
theorem in_fewest_of {n : Nat} {ns all : List Int} {l : Int} {p : Addr} {kvs : List (List Key × D)} {m0 : M} {Q : D → M → Prop} {X : XD} (h1 : ns.length ≤ n) (h2 : ns.Pairwise (· < ·)) (h3 : ∀ x ∈ ns, x ∈ all) (h4 : all.Pairwise (· < ·)) (h5 : all.length ≤ 8) (h6 : ∀ x ∈ all, 0 ≤ x ∧ x < l) (h7 : l ≤ 40) (hk : KnownOk l all kvs)
    (q : ∀ (best : List Spn) kvs', BestOk l ns best → KnownOk l all kvs' → Q (.lst (best.map spnD)) ((p, .dT kvs') :: m0)) : T_fewest_of (n + 1) [intsD ns, .ref p] ((p, .dT kvs) :: m0) Q X := ⟨ns, all, l, p, kvs, m0, rfl, rfl, h1, h2, h3, h4, h5, h6, h7, hk, fun best kvs' b k _ => q best kvs' b k⟩
/-! #### fewest_cuts -/
theorem ge_dropO {xc : Xc} {te : TE} {d : Dl} {m : M} {Q : D → M → Prop} (h : ge xc te d m fun x m1 => ∃ a o m2, m1 = (a, o) :: m2 ∧ Q x m2) : ge xc te d m Q := fun sg H s e Q' k => h sg H s e Q' fun v H' x m' s1 r1 t1 ⟨a, o, m2, em, q⟩ => by
  subst em
  exact k v H' x m2 (s1.trans .drop1) (r1.step .drop1) t1.drop1 q
def NoPl (y : D) (l : Int) : Prop := isPlB y l = false ∨ ∃ ns : List Int, y = intsD ns ∧ ns.length ≤ 8 ∧ (∀ x ∈ ns, 0 ≤ x ∧ x < l) ∧ ¬ ns.Pairwise (· < ·)
def T_fewest_cuts (CL CR : Addr) : TD := fun ds m Q X => ∃ x y, ds = [x, y] ∧ Arg x ∧ Arg y ∧ ((isNum x 0 40 = false ∧ X (.ref CL) none m) ∨ ∃ l : Int, x = .int l ∧ 0 ≤ l ∧ l ≤ 40 ∧ ((NoPl y l ∧ X (.ref CR) none m) ∨ ∃ ns : List Int, y = intsD ns ∧ ns.length ≤ 8 ∧ (∀ x ∈ ns, 0 ≤ x ∧ x < l) ∧ ns.Pairwise (· < ·) ∧ ∀ best : List Spn, BestOk l ns best → Q (chainD (best.map cutOfM)) m))
theorem ok_fewest_cuts (T : Tx K mg) : FnOk P w K mg base (L2.CX P w) 12 T.f_fewest_cuts T.fd_fewest_cuts ["long", "places"] (spOf (T_fewest_cuts T.C_BadLong T.C_BadRow)) := by
  refine fn_okX (n := 3) rfl T.F_fewest_cuts sc_fewest_cuts (fun ds m Q X0 h => by repeat (first | (obtain ⟨e, _⟩ := h; subst e; rfl; done) | obtain ⟨_, h⟩ := h)) fun cdv A outer s H E hr => ⟨_, (pss_cons (ps_expr (pe_callN (ok_look_long T) (hr.mono (by decide)) (by rfl) T.g_look_long T.F_look_long.kp T.kb_look_long passX (pa_cons (pv 0) pa_nil) (pk_cons pe_int pk_nil))) (pss_cons (ps_if (pt_not (pt_val (pe_call (ok_is_places T) (hr.mono (by decide)) (by rfl) T.g_is_places T.F_is_places.kp T.b_is_places .nil pass0 (pa_cons (pv 1) (pa_cons (pv 0) pa_nil))))) (pss_one (ps_raiseO T.x_BadRow rfl rfl rfl (takes_of (E := E) rfl rfl rfl rfl) (by rfl))) pss_nil) (pss_one (ps_ret (pe_lc (own := [("one", 2)]) (by rfl) sc_fewest_cuts.nd (kiList K (pe_call (ok_fewest_of T 9) (hr.mono (by decide)) (by rfl) T.g_fewest_of T.F_fewest_of.kp T.b_fewest_of .nil pass0 (pa_cons (pe_callTy (kList K) (by rfl) T.z_list PyProof.Rows.boot_list (pa_cons (pv 1) pa_nil)) (pa_cons pe_dnewT pa_nil)))) (blkOk_by (own := [("one", 2)]) (N := N_fewest_cuts) (sc := defScope s_fewest_cuts) (by decide +kernel)) (fun _ _ _ _ _ => pg_name (i := 2) sc_fewest_cuts.nd rfl (Or.inl rfl)) (fun _ _ _ _ _ => pts_nil) (fun _ _ _ _ _ => (pe_call (ok_cut_of T) (hr.mono (by decide)) (by rfl) T.g_cut_of T.F_cut_of.kp T.b_cut_of .nil pass0 (pa_cons (pv 2) pa_nil)))))))), ?_⟩
  try dsimp only [cxOf]
  rintro ds m Q X0 ⟨x, y, rfl, ax, ay, h⟩
  walk_at "d0"
  walk_at "st"
  refine ge_callN ?_
  walk_at "e"
  refine ⟨rfl, rfl, ?_⟩
  show T_look_long T.C_BadLong [x, D.int 40] m _ _
  rcases h with ⟨hx, q⟩ | ⟨l, rfl, l0, l1, h⟩
  · exact in_look_longN ax hx q
  refine in_look_long l0 l1 ?_
  walk_at "e"
  rcases h with ⟨hn, q⟩ | ⟨ns, rfl, n1, n2, n3, q⟩
  · refine gs_seq (gs_ifT ?_ ?_)
    · walk_at "e"
      rcases hn with hn | ⟨ns, rfl, n1, n2, n3⟩
      · refine ⟨y, l, rfl, ay, .inl ⟨hn, ?_⟩⟩
        walk_at "e"
        exact ⟨rfl, rfl⟩
      · refine ⟨_, l, rfl, ay, .inr ⟨ns, rfl, n1, n2, ?_⟩⟩
        walk_at "e"
        rw [show riseB ns = false from Bool.eq_false_iff.mpr fun z => n3 (riseB_iff.mp z)]
        exact ⟨rfl, rfl⟩
    refine gs_raise ?_
    exact q
  with_reducible refine gs_bad ?_ ?_
  · walk_at "e"
    refine ⟨_, l, rfl, ay, .inr ⟨ns, rfl, n1, n2, ?_⟩⟩
    walk_at "e"
    rw [riseB_iff.mpr n3]
    exact ⟨rfl, rfl⟩
  refine gs_ret (ge_dropO ?_)
  walk_at "e"
  refine ge_dnewT fun pk hpk => ?_
  walk_at "e"
  refine in_fewest_of (n := 8) n1 n3 (fun x h => h) n3 n1 n2 l1 (known_nil l ns) fun best kvs' hb hk' => ?_
  have hbl := best_len hb n3
  walk_at "e"
  intro p hp
  refine glc_map (fun x => match x with | .tup [.int a, .int b, .int c] => cutD (cutOfM (a, b, c)) | _ => .non) _ (by rw [List.length_map]; exact Nat.lt_of_le_of_lt (show best.length ≤ 8 by omega) (by decide)) (fun x hx acc => ?_) ?_
  · obtain ⟨r, hr1, e⟩ := List.mem_map.mp hx
    subst e
    have hin := hb.inn r hr1
    walk_at "e"
    refine in_cut_of ⟨by have := hin.n0; omega, by have := hin.nl; omega⟩ ?_
    walk_at "e"
    exact ⟨rfl, rfl⟩
  · rw [List.map_map]
    have q : Q (.lst ((best.map cutOfM).map cutD)) m := q best hb
    rw [List.map_map] at q
    exact ⟨pk, _, _, rfl, q⟩

end
local macro_rules | `(tactic| walk_at "gcall") => `(tactic| ((with_reducible refine in_is_number ?ha ?_); (case ha => walk_at "arg")))
local macro_rules | `(tactic| walk_at "gcall") => `(tactic| ((with_reducible refine in_is_edge ?ha ?_); (case ha => walk_at "arg")))
local macro_rules | `(tactic| walk_at "gcall") => `(tactic| ((with_reducible refine in_is_cut ?ha ?_); (case ha => walk_at "arg")))
local macro_rules | `(tactic| walk_at "gcall") => `(tactic| ((with_reducible refine in_look_cut ?ha ?_); (case ha => assumption)))
local macro_rules | `(tactic| walk_at "gcall") => `(tactic| ((with_reducible refine in_look_long ?ha ?hb ?_); (case ha => omega); (case hb => omega)))
local macro_rules | `(tactic| walk_at "gcall") => `(tactic| with_reducible refine in_edge ?_)
local macro_rules | `(tactic| walk_at "gcall") => `(tactic| with_reducible refine in_ends_of ?_)
local macro_rules | `(tactic| walk_at "gcall") => `(tactic| with_reducible refine in_plain_span ?_)
local macro_rules | `(tactic| walk_at "gcall") => `(tactic| ((with_reducible refine in_span_of ?ha ?_); (case ha => assumption)))
local macro_rules | `(tactic| walk_at "gcall") => `(tactic| ((with_reducible refine in_places ?ha ?hb ?hc ?_); (case ha => assumption); (case hb => omega); (case hc => omega)))
local macro_rules | `(tactic| walk_at "gcall") => `(tactic| ((with_reducible refine in__law_ends ?ha ?hb ?_); (case ha => first | assumption | exact CutOk.z (by assumption)); (case hb => omega)))
local macro_rules | `(tactic| walk_at "gcall") => `(tactic| ((with_reducible refine in__law_took ?ha ?hb ?hc ?_); (case ha => assumption); (case hb => omega); (case hc => omega)))
section
variable {P : Program} {w : World} {K : PySem.W.Frag} {mg : Str → Option Value} {base : Heap}
/-! #### lists_of -/
theorem flat_le {α β : Type} {g : α → List β} {L : List α} (c : Nat) (h : ∀ x ∈ L, (g x).length ≤ c) : (L.flatMap g).length ≤ c * L.length := by
  induction L with
  | nil => simp
  | cons x L ih =>
    have h1 := h x List.mem_cons_self
    have h2 := ih fun y hy => h y (List.mem_cons_of_mem _ hy)
    rw [List.flatMap_cons, List.length_append, List.length_cons, Nat.mul_add, Nat.mul_one]
    omega
theorem one_map (a s : Int) (n : Nat) : (rgD 2 n).map (fun x => match x with | .int k => intsD (spanL (a, s, k)) | _ => .non) = (oneM a s n).map fun ns => intsD ns := by
  unfold rgD oneM
  rw [List.map_map, List.map_map]
  refine List.map_congr_left fun k _ => ?_
  show intsD (spanL (a, s, 2 + (k : Int))) = intsD (spanL (a, s, ((k + 2 : Nat) : Int)))
  rw [show (2 : Int) + (k : Int) = ((k + 2 : Nat) : Int) by omega]
def T_lists_of : TD := fun ds m Q _ => ∃ l : Nat, ds = [.int (l : Int)] ∧ 1 ≤ l ∧ l ≤ 30 ∧ Q (listsD (listsM l)) m
theorem in_lists_of {l : Nat} {m : M} {Q : D → M → Prop} {X : XD} (h1 : 1 ≤ l) (h2 : l ≤ 30) (q : Q (listsD (listsM l)) m) : T_lists_of [.int (l : Int)] m Q X := ⟨l, rfl, h1, h2, q⟩
theorem ok_lists_of (T : Tx K mg) : FnOk P w K mg base CX0 2 T.f_lists_of T.fd_lists_of ["long"] (spOf T_lists_of) := by
  refine fn_ok (n := 8) rfl T.F_lists_of sc_lists_of (fun ds m Q X0 h => by repeat (first | (obtain ⟨e, _⟩ := h; subst e; rfl; done) | obtain ⟨_, h⟩ := h)) fun cdv A outer s H E hr => ⟨_, (pss_cons (ps_set (i := 1) sc_lists_of.nd rfl (Or.inl rfl) (pe_op (kAdd K) (pe_lst (pa_cons (pe_lst pa_nil) pa_nil)) (pe_lc (own := [("place", 2)]) (by rfl) sc_lists_of.nd (pi_range1 (by rfl) T.z_range (pa_cons (pv 0) pa_nil)) (blkOk_by (own := [("place", 2)]) (N := N_lists_of) (sc := defScope s_lists_of) (by decide +kernel)) (fun _ _ _ _ _ => pg_name (i := 2) sc_lists_of.nd rfl (Or.inl rfl)) (fun _ _ _ _ _ => pts_nil) (fun _ _ _ _ _ => (pe_lst (pa_cons (pv 2) pa_nil)))))) (pss_cons (ps_for PassesOwn.never rfl (pi_range2 (by rfl) T.z_range (pa_cons pe_int (pa_cons (pv 0) pa_nil))) (pg_name (i := 3) sc_lists_of.nd rfl (Or.inl rfl)) (pss_one (ps_for PassesOwn.never rfl (pi_range1 (by rfl) T.z_range (pa_cons (pv 0) pa_nil)) (pg_name (i := 4) sc_lists_of.nd rfl (Or.inr rfl)) (pss_one (ps_for PassesOwn.never rfl (kiTup K (pe_tup (pa_cons (pe_tup (pa_cons (pv 3) (pa_cons (pe_op op_sub (pe_op op_sub (pv 0) pe_int) (pv 4)) pa_nil))) (pa_cons (pe_tup (pa_cons (pe_op op_sub pe_int (pv 3)) (pa_cons (pv 4) pa_nil))) pa_nil)))) (kTup K (n := 2) (by rfl) (pgs_cons (pg_name (i := 5) sc_lists_of.nd rfl (Or.inr rfl)) (pgs_cons (pg_name (i := 6) sc_lists_of.nd rfl (Or.inl rfl)) pgs_nil))) (pss_one (ps_expr (kBm K PySem.F.plainAttrs_list PySem.F.slot_list_extend PySem.F.type_list_extend mt_extend (pv 1) (pa_cons (pe_lc (own := [("many", 7)]) (by rfl) sc_lists_of.nd (pi_range2 (by rfl) T.z_range (pa_cons pe_int (pa_cons (pe_op (kAdd K) (pe_op op_fdivP (pv 6) (pv 3)) pe_int) pa_nil))) (blkOk_by (own := [("many", 7)]) (N := N_lists_of) (sc := defScope s_lists_of) (by decide +kernel)) (fun _ _ _ _ _ => pg_name (i := 7) sc_lists_of.nd rfl (Or.inl rfl)) (fun _ _ _ _ _ => pts_nil) (fun _ _ _ _ _ => (pe_call (ok_places_of T) (hr.mono (by decide)) (by rfl) T.g_places_of T.F_places_of.kp T.b_places_of .nil pass0 (pa_cons (pe_tup (pa_cons (pv 4) (pa_cons (pv 5) (pa_cons (pv 7) pa_nil)))) pa_nil)))) pa_nil))))))))) (pss_one (ps_ret (pe_callB (cr_sortLL hr.units) (by rfl) T.z_sorted PyProof.Rows.boot_sorted (pa_cons (pv 1) pa_nil)))))), ?_⟩
  try dsimp only [cxOf]
  rintro ds m Q X0 ⟨l, rfl, h1, h2, q⟩
  walk_at "d0"
  walk_at "st"
  refine ⟨l, rfl, by omega, by omega, fun p hp => ?_⟩
  rw [Int.toNat_natCast]
  refine glc_map (fun x => .lst [x]) _ (by rw [rgD_len]; omega) (fun x hx acc => ?_) ?_
  · walk_at "e"
    exact ⟨rfl, rfl⟩
  have e0 : (rgD 0 l).map (fun x => D.lst [x]) = ((List.range l).map fun p : Nat => [(p : Int)]).map fun ns => intsD ns := by
    unfold rgD
    rw [List.map_map, List.map_map]
    refine List.map_congr_left fun k _ => ?_
    show D.lst [D.int (0 + (k : Int))] = D.lst [D.int (k : Int)]
    rw [Int.zero_add]
  rw [e0]
  refine g2_addLM (by rw [List.length_map, List.length_map, List.length_range]; exact Nat.le_trans (show 1 + l ≤ 100 by omega) (by decide)) fun p2 hp2 => ?_
  walk_at "e"
  obtain ⟨G0, hG0⟩ : ∃ G0, ([] :: (List.range l).map fun p : Nat => [(p : Int)] : List (List Int)) = G0 := ⟨_, rfl⟩
  rw [show [D.lst []] ++ ((List.range l).map fun p : Nat => [(p : Int)]).map (fun ns => intsD ns) = G0.map fun ns => intsD ns by rw [← hG0]; rfl]
  have hl0 : G0.length = 1 + l := by
    rw [← hG0, List.length_cons, List.length_map, List.length_range]
    omega
  have cap : ∀ i j : Nat, i ≤ l - 1 → j ≤ l → (G0 ++ ((List.range i).flatMap fun s => stepR l (s + 1)) ++ (List.range j).flatMap fun f => firstM l (i + 1) f).length ≤ 30000 := fun i j hi hj => by
    have k1 : ∀ s : Nat, ∀ f ∈ List.range l, (firstM l (s + 1) f).length ≤ 29 := fun s f hf => by
      have hf := List.mem_range.mp hf
      unfold firstM oneM
      rw [List.length_append, List.length_map, List.length_map, List.length_range, List.length_range]
      have a1 := Nat.div_le_self (l - 1 - f) (s + 1)
      have a2 := Nat.div_le_self f (s + 1)
      omega
    have k2 : ∀ s ∈ List.range i, (stepR l (s + 1)).length ≤ 29 * 30 := fun s _ => by
      have := flat_le 29 (k1 s)
      rw [List.length_range] at this
      exact Nat.le_trans this (Nat.mul_le_mul_left _ h2)
    have k3 := flat_le (29 * 30) k2
    have k4 := flat_le (L := List.range j) (g := fun f => firstM l (i + 1) f) 29 fun f hf => k1 i f (List.mem_range.mpr (by have := List.mem_range.mp hf; omega))
    rw [List.length_range] at k3 k4
    rw [List.length_append, List.length_append]
    omega
  refine gs_seq (gs_for ?_)
  walk_at "e"
  refine ⟨1, l, rfl, ⟨by omega, by omega, by omega, by omega⟩, ?_⟩
  rw [show ((l : Int) - 1).toNat = l - 1 by omega]
  refine gfor_inv (fun i d' m' => ∃ y3 y4 y5 y6, m' = (p2, MO.lst ((G0 ++ (List.range i).flatMap fun s => stepR l (s + 1)).map fun ns => intsD ns)) :: m ∧ d' = [some (.int (l : Int)), some (.ref p2), none, y3, y4, y5, y6, none]) _ (fun i x d' m' hx hP => ?_) (fun d' m' hP => ?_) ⟨none, none, none, none, by rw [show (List.range 0).flatMap (fun s => stepR l (s + 1)) = [] from rfl, List.append_nil], rfl⟩
  · obtain ⟨y3, y4, y5, y6, rfl, rfl⟩ := hP
    obtain ⟨hi, rfl⟩ := rg_at hx
    obtain ⟨G, hG⟩ : ∃ G, G0 ++ (List.range i).flatMap (fun s => stepR l (s + 1)) = G := ⟨_, rfl⟩
    have cap2 := cap i
    rw [hG] at cap2 ⊢
    have ei : (1 : Int) + (i : Int) = ((i + 1 : Nat) : Int) := by omega
    rw [ei]
    walk_at "e"
    refine gs_for ?_
    walk_at "e"
    refine ⟨l, rfl, by omega, by omega, ?_⟩
    rw [Int.toNat_natCast]
    refine gfor_inv (fun j d' m' => ∃ y4 y5 y6, m' = (p2, MO.lst ((G ++ (List.range j).flatMap fun f => firstM l (i + 1) f).map fun ns => intsD ns)) :: m ∧ d' = [some (.int (l : Int)), some (.ref p2), none, some (.int ((i + 1 : Nat) : Int)), y4, y5, y6, none]) _ (fun j x d' m' hx hP => ?_) (fun d' m' hP => ?_) ⟨y4, y5, y6, by rw [show (List.range 0).flatMap (fun f => firstM l (i + 1) f) = [] from rfl, List.append_nil], rfl⟩
    · obtain ⟨y4, y5, y6, rfl, rfl⟩ := hP
      obtain ⟨hj, rfl⟩ := rg_at hx
      rw [Int.zero_add]
      have c3 := cap2 (j + 1) (by omega) (by omega)
      rw [List.range_succ, List.flatMap_append, ← List.append_assoc] at c3
      obtain ⟨F, hF⟩ : ∃ F, G ++ (List.range j).flatMap (fun f => firstM l (i + 1) f) = F := ⟨_, rfl⟩
      rw [hF] at c3 ⊢
      walk_at "e"
      refine gs_for ?_
      walk_at "e"
      have d1 : (((l - 1 - j) / (i + 1) : Nat)) ≤ 30 := Nat.le_trans (Nat.div_le_self _ _) (by omega)
      have d2 : ((j / (i + 1) : Nat)) ≤ 30 := Nat.le_trans (Nat.div_le_self _ _) (by omega)
      have f1 : ((l : Int) - 1 - (j : Int)).fdiv ((i + 1 : Nat) : Int) = (((l - 1 - j) / (i + 1) : Nat) : Int) := by
        rw [show (l : Int) - 1 - (j : Int) = ((l - 1 - j : Nat) : Int) by omega, Int.fdiv_eq_ediv_of_nonneg _ (by omega), Int.natCast_ediv]
      have f2 : ((j : Int)).fdiv ((i + 1 : Nat) : Int) = ((j / (i + 1) : Nat) : Int) := by
        rw [Int.fdiv_eq_ediv_of_nonneg _ (by omega), Int.natCast_ediv]
      have c4 : F.length + ((l - 1 - j) / (i + 1) + j / (i + 1)) ≤ 30000 := by
        rw [List.length_append] at c3
        have e : ((List.flatMap (fun f => firstM l (i + 1) f) [j])).length = (l - 1 - j) / (i + 1) + j / (i + 1) := by
          rw [List.flatMap_cons, List.flatMap_nil, List.append_nil]
          unfold firstM oneM
          rw [List.length_append, List.length_map, List.length_map, List.length_range, List.length_range]
        omega
      obtain ⟨n1, hn1⟩ : ∃ n1, (l - 1 - j) / (i + 1) = n1 := ⟨_, rfl⟩
      obtain ⟨n2, hn2⟩ : ∃ n2, j / (i + 1) = n2 := ⟨_, rfl⟩
      have hfm : firstM l (i + 1) j = oneM (j : Int) ((i + 1 : Nat) : Int) n1 ++ oneM (j : Int) (0 - ((i + 1 : Nat) : Int)) n2 := by
        unfold firstM
        rw [hn1, hn2]
      rw [hn1] at d1 f1 c4
      rw [hn2] at d2 f2 c4
      clear hn1 hn2
      refine gfor_cons ?_
      walk_at "e"
      refine gs_drop (ge_ext ?_)
      walk_at "e"
      refine ⟨p2, 0, _, rfl, rfl, ?_⟩
      walk_at "e"
      rw [f1]
      refine ⟨2, _, rfl, ⟨by omega, by omega, by omega, by omega⟩, fun p3 hp3 => ?_⟩
      rw [show ((n1 : Int) + 2 - 2).toNat = n1 by omega]
      refine glc_map (fun x => match x with | .int k => intsD (spanL ((j : Int), ((i + 1 : Nat) : Int), k)) | _ => .non) _ (by rw [rgD_len]; omega) (fun x hx acc => ?_) ?_
      · obtain ⟨k, hk, rfl⟩ := List.mem_map.mp (show x ∈ (List.range _).map _ from hx)
        have hk := List.mem_range.mp hk
        walk_at "e"
        refine in_places_of (s := ((j : Int), ((i + 1 : Nat) : Int), 2 + (k : Int))) ⟨by show (-90000 : Int) ≤ 2 + (k : Int); omega, by show 2 + (k : Int) ≤ 90000; omega⟩ ⟨by show -18446744073709551616 < ((i + 1 : Nat) : Int); omega, by show ((i + 1 : Nat) : Int) < 18446744073709551616; omega⟩ ?_
        exact ⟨rfl, rfl⟩
      rw [one_map]
      walk_at "e"
      refine ⟨0, _, _, rfl, rfl, by simp only [List.length_map, List.length_append, List.length_range, oneM]; omega, ?_⟩
      rw [← List.map_append]
      show gfor xc0 _ _ _ _ _ _
      refine gfor_cons ?_
      walk_at "e"
      refine gs_drop (ge_ext ?_)
      walk_at "e"
      refine ⟨p2, 0, _, rfl, rfl, ?_⟩
      walk_at "e"
      rw [f2]
      refine ⟨2, _, rfl, ⟨by omega, by omega, by omega, by omega⟩, fun p3 hp3 => ?_⟩
      rw [show ((n2 : Int) + 2 - 2).toNat = n2 by omega]
      refine glc_map (fun x => match x with | .int k => intsD (spanL ((j : Int), (0 - ((i + 1 : Nat) : Int)), k)) | _ => .non) _ (by rw [rgD_len]; omega) (fun x hx acc => ?_) ?_
      · obtain ⟨k, hk, rfl⟩ := List.mem_map.mp (show x ∈ (List.range _).map _ from hx)
        have hk := List.mem_range.mp hk
        walk_at "e"
        refine in_places_of (s := ((j : Int), (0 - ((i + 1 : Nat) : Int)), 2 + (k : Int))) ⟨by show (-90000 : Int) ≤ 2 + (k : Int); omega, by show 2 + (k : Int) ≤ 90000; omega⟩ ⟨by show -18446744073709551616 < (0 - ((i + 1 : Nat) : Int)); omega, by show (0 - ((i + 1 : Nat) : Int)) < 18446744073709551616; omega⟩ ?_
        exact ⟨rfl, rfl⟩
      rw [one_map]
      walk_at "e"
      refine ⟨0, _, _, rfl, rfl, by simp only [List.length_map, List.length_append, List.length_range, oneM]; omega, ?_⟩
      rw [← List.map_append]
      show gfor xc0 _ _ _ _ _ _
      refine gfor_nil ?_
      refine ⟨_, _, _, ?_, rfl⟩
      rw [List.range_succ, List.flatMap_append, ← List.append_assoc, hF, List.flatMap_cons, List.flatMap_nil, List.append_nil, hfm, List.append_assoc]
      rfl
    · obtain ⟨y4, y5, y6, rfl, rfl⟩ := hP
      rw [rgD_len]
      refine ⟨_, y4, y5, y6, ?_, rfl⟩
      rw [List.range_succ, List.flatMap_append, ← List.append_assoc, hG]
      show _ = (p2, MO.lst ((G ++ (stepR l (i + 1) ++ [])).map fun ns => intsD ns)) :: m
      rw [List.append_nil]
      rfl
  · obtain ⟨y3, y4, y5, y6, rfl, rfl⟩ := hP
    rw [rgD_len, ← hG0]
    refine gs_frz (i := 1) rfl ?_
    refine gs_ret ?_
    walk_at "e"
    refine gc_sortLL ?_
    exact q
/-! #### list_at -/
def T_list_at : TD := fun ds m Q _ => ∃ (l j : Nat) (ns : List Int), ds = [.int (l : Int), .int (j : Int)] ∧ 1 ≤ l ∧ l ≤ 30 ∧ (listsM l)[j]? = some ns ∧ Q (intsD ns) m
theorem ok_list_at (T : Tx K mg) : FnOk P w K mg base CX0 3 T.f_list_at T.fd_list_at ["long", "number"] (spOf T_list_at) := by
  refine fn_ok (n := 3) rfl T.F_list_at sc_list_at (fun ds m Q X0 h => by repeat (first | (obtain ⟨e, _⟩ := h; subst e; rfl; done) | obtain ⟨_, h⟩ := h)) fun cdv A outer s H E hr => ⟨_, (pss_cons (ps_expr (pe_callN (ok_look_long T) (hr.mono (by decide)) (by rfl) T.g_look_long T.F_look_long.kp T.kb_look_long passL (pa_cons (pv 0) pa_nil) (pk_cons (pe_globI (by rfl) T.c_MOST_LISTED) pk_nil))) (pss_cons (ps_set (i := 2) sc_list_at.nd rfl (Or.inl rfl) (pe_call (ok_lists_of T) (hr.mono (by decide)) (by rfl) T.g_lists_of T.F_lists_of.kp T.b_lists_of .nil pass0 (pa_cons (pv 0) pa_nil))) (pss_cons (ps_if (PW.pt (pw_or (pt_not (pt_val (pe_callB (kIsi K) (by rfl) T.z_isinstance PyProof.Rows.boot_isinstance (pa_cons (pv 1) (pa_cons (pe_bltn (v := .ty "int") (by rfl) T.z_int (by decide +kernel) rfl) pa_nil))))) (pw_or (pt_val (pe_callB (kIsi K) (by rfl) T.z_isinstance PyProof.Rows.boot_isinstance (pa_cons (pv 1) (pa_cons (pe_bltn (v := .ty "bool") (by rfl) T.z_bool (by decide +kernel) rfl) pa_nil)))) (pw_or1 (pt_not (pt_chain op_le op_lt pe_int (pv 1) (pe_callB (kLen K) (by rfl) T.z_len PySem.boot_len (pa_cons (pv 2) pa_nil)))))))) (pss_one ps_never) pss_nil) (pss_one (ps_ret (pe_ix (kIx K) (pv 2) (pv 1) (fun _ _ => rfl))))))), ?_⟩
  try dsimp only [cxOf]
  rintro ds m Q X0 ⟨l, j, ns, rfl, h1, h2, hj, q⟩
  walk_at "d0"
  walk_at "st"
  refine ge_callN ?_
  walk_at "e"
  refine ⟨rfl, rfl, ?_⟩
  show T_look_long T.C_BadLong [D.int (l : Int), D.int 30] m _ _
  refine in_look_long (by omega) (by omega) ?_
  walk_at "e"
  walk_at "st"
  refine in_lists_of h1 h2 ?_
  walk_at "e"
  have hjl : j < (listsM l).length := (List.getElem?_eq_some_iff.mp hj).1
  with_reducible refine gs_bad ?_ ?_
  · walk_at "e"
    rw [List.length_map, decide_eq_true (by omega)]
    exact ⟨rfl, rfl⟩
  refine gs_ret ?_
  walk_at "e"
  refine g2_ixPL (z := intsD ns) (atI_some (by omega) (by rw [Int.toNat_natCast, List.getElem?_map, hj]; rfl)) ?_
  exact q

/-! #### number_of -/
def T_number_of : TD := fun ds m Q _ => ∃ (l : Nat) (ns : List Int), ds = [.int (l : Int), intsD ns] ∧ 1 ≤ l ∧ l ≤ 30 ∧ ns.length ≤ 1000 ∧ ns ∈ listsM l ∧ ∀ j : Nat, (listsM l)[j]? = some ns → Q (.int (j : Int)) m
theorem ok_number_of (T : Tx K mg) : FnOk P w K mg base CX0 3 T.f_number_of T.fd_number_of ["long", "places"] (spOf T_number_of) := by
  refine fn_ok (n := 4) rfl T.F_number_of sc_number_of (fun ds m Q X0 h => by repeat (first | (obtain ⟨e, _⟩ := h; subst e; rfl; done) | obtain ⟨_, h⟩ := h)) fun cdv A outer s H E hr => ⟨_, (pss_cons (ps_expr (pe_callN (ok_look_long T) (hr.mono (by decide)) (by rfl) T.g_look_long T.F_look_long.kp T.kb_look_long passL (pa_cons (pv 0) pa_nil) (pk_cons (pe_globI (by rfl) T.c_MOST_LISTED) pk_nil))) (pss_cons (ps_if (PW.pt (pw_or (pt_not (pt_val (pe_callB (kIsi K) (by rfl) T.z_isinstance PyProof.Rows.boot_isinstance (pa_cons (pv 1) (pa_cons (pe_bltn (v := .ty "list") (by rfl) T.z_list (by decide +kernel) rfl) pa_nil))))) (pw_or1 (pt_not (pt_val (pe_callB (kAll K rfl) (by rfl) T.z_all PyProof.Rows.boot_all (pa_cons (pe_lc (own := [("one", 2)]) (by rfl) sc_number_of.nd (kiList K (pv 1)) (blkOk_by (own := [("one", 2)]) (N := N_number_of) (sc := defScope s_number_of) (by decide +kernel)) (fun _ _ _ _ _ => pg_name (i := 2) sc_number_of.nd rfl (Or.inl rfl)) (fun _ _ _ _ _ => pts_nil) (fun _ _ _ _ _ => (pe_and (pe_callB (kIsi K) (by rfl) T.z_isinstance PyProof.Rows.boot_isinstance (pa_cons (pv 2) (pa_cons (pe_bltn (v := .ty "int") (by rfl) T.z_int (by decide +kernel) rfl) pa_nil))) (pe_one (pe_not (pe_callB (kIsi K) (by rfl) T.z_isinstance PyProof.Rows.boot_isinstance (pa_cons (pv 2) (pa_cons (pe_bltn (v := .ty "bool") (by rfl) T.z_bool (by decide +kernel) rfl) pa_nil)))))))) pa_nil))))))) (pss_one ps_never) pss_nil) (pss_cons (ps_set (i := 3) sc_number_of.nd rfl (Or.inl rfl) (pe_call (ok_lists_of T) (hr.mono (by decide)) (by rfl) T.g_lists_of T.F_lists_of.kp T.b_lists_of .nil pass0 (pa_cons (pv 0) pa_nil))) (pss_cons (ps_if (pt_cmpR (kNinD K (un65 hr)) (pv 1) (pv 3) (by rfl)) (pss_one ps_never) pss_nil) (pss_one (ps_ret (kBm K PySem.F.plainAttrs_list PySem.F.slot_list_index PySem.F.type_list_index (kIndexD K (un65 hr)) (pv 3) (pa_cons (pv 1) pa_nil)))))))), ?_⟩
  try dsimp only [cxOf]
  rintro ds m Q X0 ⟨l, ns, rfl, h1, h2, hl, hm, q⟩
  walk_at "d0"
  walk_at "st"
  refine ge_callN ?_
  walk_at "e"
  refine ⟨rfl, rfl, ?_⟩
  show T_look_long T.C_BadLong [D.int (l : Int), D.int 30] m _ _
  refine in_look_long (by omega) (by omega) ?_
  walk_at "e"
  with_reducible refine gs_bad ?_ ?_
  · walk_at "e"
    intro p hp
    refine glc_map (fun _ => .bl true) _ (by rw [List.length_map]; omega) (fun x hx acc => ?_) ?_
    · obtain ⟨v, _, rfl⟩ := List.mem_map.mp hx
      walk_at "e"
      exact ⟨rfl, rfl⟩
    · rw [show (ns.map D.int).map (fun _ => D.bl true) = (List.replicate ns.length true).map D.bl by rw [List.map_map, List.map_replicate]; exact List.map_const' ..]
      refine ga_nil (gc_all ?_)
      rw [List.all_replicate]
      walk_at "e"
      refine ⟨?_, rfl⟩
      split <;> rfl
  walk_at "st"
  refine in_lists_of h1 h2 ?_
  walk_at "e"
  with_reducible refine gs_bad ?_ ?_
  · walk_at "e"
    refine g2_ninLL ?_
    walk_at "e"
    rw [decide_eq_true hm]
    exact ⟨rfl, rfl⟩
  obtain ⟨j, j1, j2⟩ := first_atL hm
  refine gs_ret (ge_indexLL ?_)
  walk_at "e"
  refine ⟨_, rfl, ?_⟩
  walk_at "e"
  exact ⟨j, ns, rfl, j1, j2, q j j1⟩
/-! #### how_many -/
def hsM (l i : Nat) : Nat := 1 + l + ((List.range i).map fun s => 2 * ((List.range (l - (s + 1))).map fun f => (l - 1 - f) / (s + 1)).sum).sum
theorem hsM_zero (l : Nat) : ((hsM l 0 : Nat) : Int) = 1 + (l : Int) := by
  unfold hsM
  simp
theorem hsM_all (l : Nat) : hsM l (l - 1) = howM l := rfl
theorem hsM_succ (l i : Nat) : hsM l (i + 1) = hsM l i + 2 * ((List.range (l - (i + 1))).map fun f => (l - 1 - f) / (i + 1)).sum := by
  unfold hsM
  rw [List.range_succ, List.map_append, List.sum_append]
  simp
  omega
theorem hs_map (l i : Nat) (h : i + 1 ≤ l) : (rgD 0 (l - (i + 1))).map (fun x => match x with | .int f => D.int (((l : Int) - 1 - f).fdiv (1 + (i : Int))) | _ => .non) = ((List.range (l - (i + 1))).map fun f : Nat => (((l - 1 - f) / (i + 1) : Nat) : Int)).map D.int := by
  unfold rgD
  rw [List.map_map, List.map_map]
  refine List.map_congr_left fun f hf => ?_
  have hf := List.mem_range.mp hf
  show D.int (((l : Int) - 1 - (0 + (f : Int))).fdiv (1 + (i : Int))) = D.int (((l - 1 - f) / (i + 1) : Nat) : Int)
  rw [show (l : Int) - 1 - (0 + (f : Int)) = ((l - 1 - f : Nat) : Int) by omega, show (1 : Int) + (i : Int) = ((i + 1 : Nat) : Int) by omega, Int.fdiv_eq_ediv_of_nonneg _ (by omega), Int.natCast_ediv]
theorem sum_castN : ∀ ns : List Nat, ((ns.map fun n : Nat => (n : Int)).sum : Int) = ((ns.sum : Nat) : Int)
  | [] => rfl
  | n :: ns => by
    rw [List.map_cons, List.sum_cons, List.sum_cons, sum_castN ns, Int.natCast_add]
def T_how_many : TD := fun ds m Q _ => ∃ l : Nat, ds = [.int (l : Int)] ∧ 1 ≤ l ∧ l ≤ 30 ∧ Q (.int (howM l : Nat)) m
theorem in_how_many {l : Nat} {m : M} {Q : D → M → Prop} {X : XD} (h1 : 1 ≤ l) (h2 : l ≤ 30) (q : Q (.int (howM l : Nat)) m) : T_how_many [.int (l : Int)] m Q X := ⟨l, rfl, h1, h2, q⟩
theorem ok_how_many (T : Tx K mg) : FnOk P w K mg base CX0 3 T.f_how_many T.fd_how_many ["long"] (spOf T_how_many) := by
  refine fn_ok (n := 4) rfl T.F_how_many sc_how_many (fun ds m Q X0 h => by repeat (first | (obtain ⟨e, _⟩ := h; subst e; rfl; done) | obtain ⟨_, h⟩ := h)) fun cdv A outer s H E hr => ⟨_, (pss_cons (ps_expr (pe_callN (ok_look_long T) (hr.mono (by decide)) (by rfl) T.g_look_long T.F_look_long.kp T.kb_look_long passL (pa_cons (pv 0) pa_nil) (pk_cons pe_int pk_nil))) (pss_cons (ps_set (i := 1) sc_how_many.nd rfl (Or.inl rfl) (pe_op (kAdd K) pe_int (pv 0))) (pss_cons (ps_for PassesOwn.never rfl (pi_range2 (by rfl) T.z_range (pa_cons pe_int (pa_cons (pv 0) pa_nil))) (pg_name (i := 2) sc_how_many.nd rfl (Or.inr rfl)) (pss_one (ps_aug (i := 1) sc_how_many.nd rfl (Or.inl rfl) (pe_op op_mulP pe_int (pe_callB (kSum K rfl) (by rfl) T.z_sum PyProof.Rows.boot_sum (pa_cons (pe_lc (own := [("first", 3)]) (by rfl) sc_how_many.nd (pi_range1 (by rfl) T.z_range (pa_cons (pe_op op_sub (pv 0) (pv 2)) pa_nil)) (blkOk_by (own := [("first", 3)]) (N := N_how_many) (sc := defScope s_how_many) (by decide +kernel)) (fun _ _ _ _ _ => pg_name (i := 3) sc_how_many.nd rfl (Or.inl rfl)) (fun _ _ _ _ _ => pts_nil) (fun _ _ _ _ _ => (pe_op op_fdivP (pe_op op_sub (pe_op op_sub (pv 0) pe_int) (pv 3)) (pv 2)))) pa_nil))) ip_add))) (pss_one (ps_ret (pv 1)))))), ?_⟩
  try dsimp only [cxOf]
  rintro ds m Q X0 ⟨l, rfl, h1, h2, q⟩
  walk_at "d0"
  walk_at "st"
  refine ge_callN ?_
  walk_at "e"
  refine ⟨rfl, rfl, ?_⟩
  show T_look_long T.C_BadLong [D.int (l : Int), D.int 200] m _ _
  refine in_look_long (by omega) (by omega) ?_
  walk_at "e"
  walk_at "st"
  refine gs_seq (gs_for ?_)
  walk_at "e"
  refine ⟨1, l, rfl, ⟨by omega, by omega, by omega, by omega⟩, ?_⟩
  rw [show ((l : Int) - 1).toNat = l - 1 by omega]
  refine gfor_inv (fun i d' m' => ∃ y2, m' = m ∧ d' = [some (.int (l : Int)), some (.int (hsM l i : Nat)), y2, none]) _ (fun i x d' m' hx hP => ?_) (fun d' m' hP => ?_) ⟨none, rfl, by rw [hsM_zero]⟩
  · obtain ⟨y2, rfl, rfl⟩ := hP
    obtain ⟨hi, rfl⟩ := rg_at hx
    walk_at "e"
    walk_at "gs1"
    walk_at "e"
    refine ⟨_, rfl, by omega, by omega, fun p hp => ?_⟩
    rw [show ((l : Int) - (1 + (i : Int))).toNat = l - (i + 1) by omega]
    refine glc_map (fun x => match x with | .int f => .int (((l : Int) - 1 - f).fdiv (1 + (i : Int))) | _ => .non) _ (by rw [rgD_len]; omega) (fun x hx acc => ?_) ?_
    · obtain ⟨f, hf, rfl⟩ := List.mem_map.mp (show x ∈ (List.range _).map _ from hx)
      walk_at "e"
      exact ⟨rfl, rfl⟩
    · rw [hs_map l i (by omega)]
      refine ga_nil (gc_sum ?_)
      walk_at "e"
      have es : ((List.range (l - (i + 1))).map fun f : Nat => (((l - 1 - f) / (i + 1) : Nat) : Int)).sum = ((((List.range (l - (i + 1))).map fun f => (l - 1 - f) / (i + 1)).sum : Nat) : Int) := by
        rw [← sum_castN, List.map_map]
        rfl
      rw [es]
      refine ⟨some (.int (1 + (i : Int))), rfl, ?_⟩
      rw [hsM_succ, Int.natCast_add, Int.natCast_mul]
      rfl
  · obtain ⟨y2, rfl, rfl⟩ := hP
    rw [rgD_len]
    refine gs_ret ?_
    walk_at "e"
    rw [hsM_all]
    exact q
end
local macro_rules | `(tactic| walk_at "gcall") => `(tactic| ((with_reducible refine in_is_number ?ha ?_); (case ha => walk_at "arg")))
local macro_rules | `(tactic| walk_at "gcall") => `(tactic| ((with_reducible refine in_is_edge ?ha ?_); (case ha => walk_at "arg")))
local macro_rules | `(tactic| walk_at "gcall") => `(tactic| ((with_reducible refine in_is_cut ?ha ?_); (case ha => walk_at "arg")))
local macro_rules | `(tactic| walk_at "gcall") => `(tactic| ((with_reducible refine in_look_cut ?ha ?_); (case ha => assumption)))
local macro_rules | `(tactic| walk_at "gcall") => `(tactic| ((with_reducible refine in_look_long ?ha ?hb ?_); (case ha => omega); (case hb => omega)))
local macro_rules | `(tactic| walk_at "gcall") => `(tactic| with_reducible refine in_edge ?_)
local macro_rules | `(tactic| walk_at "gcall") => `(tactic| with_reducible refine in_ends_of ?_)
local macro_rules | `(tactic| walk_at "gcall") => `(tactic| with_reducible refine in_plain_span ?_)
local macro_rules | `(tactic| walk_at "gcall") => `(tactic| ((with_reducible refine in_span_of ?ha ?_); (case ha => assumption)))
local macro_rules | `(tactic| walk_at "gcall") => `(tactic| ((with_reducible refine in_places ?ha ?hb ?hc ?_); (case ha => assumption); (case hb => omega); (case hc => omega)))
local macro_rules | `(tactic| walk_at "gcall") => `(tactic| ((with_reducible refine in__law_ends ?ha ?hb ?_); (case ha => first | assumption | exact CutOk.z (by assumption)); (case hb => omega)))
local macro_rules | `(tactic| walk_at "gcall") => `(tactic| ((with_reducible refine in__law_took ?ha ?hb ?hc ?_); (case ha => assumption); (case hb => omega); (case hc => omega)))
section
variable {P : Program} {w : World} {K : PySem.W.Frag} {mg : Str → Option Value} {base : Heap}
/-! #### law -/
theorem in_fewest_cuts {CL CR : Addr} {l : Int} {ns : List Int} {m : M} {Q : D → M → Prop} {X : XD} (l0 : 0 ≤ l) (l1 : l ≤ 40) (h1 : ns.length ≤ 8) (h2 : ∀ x ∈ ns, 0 ≤ x ∧ x < l) (h3 : ns.Pairwise (· < ·)) (q : ∀ best : List Spn, BestOk l ns best → Q (chainD (best.map cutOfM)) m) : T_fewest_cuts CL CR [.int l, intsD ns] m Q X := ⟨_, _, rfl, .inl (.int _ _), .inl (shInts _), .inr ⟨l, rfl, l0, l1, .inr ⟨ns, rfl, h1, h2, h3, q⟩⟩⟩
theorem in_number_of {l : Nat} {ns : List Int} {m : M} {Q : D → M → Prop} {X : XD} (h1 : 1 ≤ l) (h2 : l ≤ 30) (h3 : ns.length ≤ 1000) (h4 : ns ∈ rawM l) (q : ∀ j : Nat, (listsM l)[j]? = some ns → Q (.int (j : Int)) m) : T_number_of [.int (l : Int), intsD ns] m Q X := ⟨l, ns, rfl, h1, h2, h3, lists_mem.mpr h4, q⟩
theorem lists_lt {l j : Nat} {ns : List Int} (h : l ≤ 30) (hj : (listsM l)[j]? = some ns) : j < howM l := by
  have h1 := (List.getElem?_eq_some_iff.mp hj).1
  rw [lists_len, cnt_how l (by omega)] at h1
  exact h1
theorem nodup_of_len : ∀ {ks ms : List Int}, ms.Nodup → (∀ x, x ∈ ms ↔ x ∈ ks) → ms.length = ks.length → ks.Nodup
  | [], _, _, _, _ => List.nodup_nil
  | x :: ks, ms, hd, h, hl => by
    rw [List.length_cons] at hl
    have hx : x ∉ ks := fun z => by
      have := nd_len hd fun y hy => (List.mem_cons.mp ((h y).mp hy)).elim (fun e => by rw [e]; exact z) id
      omega
    have hxm : x ∈ ms := (h x).mpr List.mem_cons_self
    refine List.nodup_cons.mpr ⟨hx, nodup_of_len (ms := ms.erase x) (hd.erase x) (fun y => ?_) (by rw [List.length_erase_of_mem hxm]; omega)⟩
    rw [hd.mem_erase_iff, h y, List.mem_cons]
    constructor
    · rintro ⟨a, b | b⟩
      · exact absurd b a
      · exact b
    · intro b
      exact ⟨fun e => hx (by rw [← e]; exact b), .inr b⟩
theorem ex_sorted (xs : List Int) : ∃ ys : List Int, ys.Perm xs ∧ ys.Pairwise (· ≤ ·) :=
  ⟨xs.mergeSort (fun a b => decide (a ≤ b)), List.mergeSort_perm _ _, (List.pairwise_mergeSort (fun a b c h1 h2 => by simp at h1 h2 ⊢; omega) (fun a b => by simp; omega) xs).imp fun h => by simpa using h⟩
theorem whole_ok {l : Nat} (h : l ≤ 30) : CutOk (some 0, some (l : Int), some 1) :=
  ⟨fun i e => by cases e; omega, fun i e => by cases e; omega, fun i e => by cases e; omega, fun e => by cases e⟩
theorem whole_span {l : Nat} : spanL (spanM (some 0, some (l : Int), some 1) (l : Int)) = rgI (l : Int) := by
  have h1 : edgeM (some 0) (l : Int) 0 0 l = 0 := by
    show mx 0 (mn (l : Int) (if (0 : Int) < 0 then 0 + (l : Int) else 0)) = 0
    rw [if_neg (by decide)]
    unfold mx mn
    (repeat' split) <;> omega
  have h2 : edgeM (some (l : Int)) (l : Int) l 0 l = l := by
    show mx 0 (mn (l : Int) (if (l : Int) < 0 then (l : Int) + (l : Int) else (l : Int))) = l
    rw [if_neg (by omega)]
    unfold mx mn
    (repeat' split) <;> omega
  have he : endsM (some 0, some (l : Int), some 1) (l : Int) = (0, (l : Int), 1) := by
    show (if (0 : Int) < 1 then (edgeM (some 0) (l : Int) 0 0 l, edgeM (some (l : Int)) (l : Int) l 0 l, (1 : Int)) else (edgeM (some 0) (l : Int) ((l : Int) - 1) (-1) ((l : Int) - 1), edgeM (some (l : Int)) (l : Int) (-1) (-1) ((l : Int) - 1), (1 : Int))) = _
    rw [if_pos (by decide), h1, h2]
  rw [spanL_plain he, Int.sub_zero]
  unfold rgI
  exact List.map_congr_left fun k _ => Int.zero_add _
/-- what a cut takes, eight of them at most -/
theorem took8 {c : Cut} {l : Int} (h : CutOk c) (hl : 0 ≤ l) : ∃ r : Spn, (spanL (spanM c l)).take 8 = spanL r ∧ r.2.1 ≠ 0 ∧ (∀ x ∈ spanL r, 0 ≤ x ∧ x < l) ∧ (spanL r).length ≤ 8 := by
  have si := span_in h hl
  obtain ⟨⟨a, s, n⟩, hr⟩ : ∃ r, spanM c l = r := ⟨_, rfl⟩
  rw [hr] at si ⊢
  refine ⟨(a, s, ((min 8 n.toNat : Nat) : Int)), span_take a s n 8, si.nz, fun x hx => ?_, ?_⟩
  · rw [← span_take a s n 8] at hx
    exact si.all x (List.mem_of_mem_take hx)
  · rw [← span_take a s n 8, List.length_take]
    omega
theorem ok_law {f : Addr} {fd : FuncData} (F : Fun K "law" "law" s_law f fd) (T : Tx K mg) : FnOk P w K mg base CX0 13 f fd ["script"] (spOf (T_law K)) := by
  refine fn_ok (n := 11) rfl F sc_law (fun ds m Q X0 h => by repeat (first | (obtain ⟨e, _⟩ := h; subst e; rfl; done) | obtain ⟨_, h⟩ := h)) fun cdv A outer s H E hr => ⟨_, (pss_cons (ps_set (i := 1) sc_law.nd rfl (Or.inl rfl) (pe_call (ok__law_town T) (hr.mono (by decide)) (by rfl) T.g__law_town T.F__law_town.kp T.b__law_town .nil pass0 (pa_cons (pv 0) pa_nil))) (pss_cons (ps_set (i := 2) sc_law.nd rfl (Or.inl rfl) (pe_op (kAdd K) pe_int (pe_call (ok__law_draw T) (hr.mono (by decide)) (by rfl) T.g__law_draw T.F__law_draw.kp T.b__law_draw .nil pass0 (pa_cons (pv 0) (pa_cons (pv 1) (pa_cons pe_int pa_nil)))))) (pss_cons (ps_set (i := 3) sc_law.nd rfl (Or.inl rfl) (pe_slice (kSl K) (pe_call (ok__law_took T) (hr.mono (by decide)) (by rfl) T.g__law_took T.F__law_took.kp T.b__law_took .nil pass0 (pa_cons (pe_call (ok__law_cut T) (hr.mono (by decide)) (by rfl) T.g__law_cut T.F__law_cut.kp T.b__law_cut .nil pass0 (pa_cons (pv 0) (pa_cons (pv 1) (pa_cons (pv 2) (pa_cons pe_int pa_nil))))) (pa_cons (pv 2) pa_nil))) po_none (po_some pe_int))) (pss_cons (ps_if (PW.pt (pw_or (pt_cmpR (kNe K hr.units) (pe_callB (kLen K) (by rfl) T.z_len PySem.boot_len (pa_cons (pe_call (ok_fewest_cuts T) (hr.mono (by decide)) (by rfl) T.g_fewest_cuts T.F_fewest_cuts.kp T.b_fewest_cuts .nil passL (pa_cons (pv 2) (pa_cons (pe_callB (kSorted K) (by rfl) T.z_sorted PyProof.Rows.boot_sorted (pa_cons (pv 3) pa_nil)) pa_nil))) pa_nil)) (pe_callTy call_int1 (by rfl) T.z_int PyProof.Rows.boot_int (pa_cons (pe_cmpR (kNe K hr.units) (pv 3) (pe_lst pa_nil) (nomark _)) pa_nil)) (nomark _)) (pw_or1 (pt_not (pt_chain op_le op_lt pe_int (pe_call (ok_number_of T) (hr.mono (by decide)) (by rfl) T.g_number_of T.F_number_of.kp T.b_number_of .nil pass0 (pa_cons (pv 2) (pa_cons (pv 3) pa_nil))) (pe_call (ok_how_many T) (hr.mono (by decide)) (by rfl) T.g_how_many T.F_how_many.kp T.b_how_many .nil pass0 (pa_cons (pv 2) pa_nil))))))) (pss_one (ps_ret pe_bl)) pss_nil) (pss_cons (ps_set (i := 4) sc_law.nd rfl (Or.inl rfl) (pe_slice (kSl K) (pe_call (ok__law_took T) (hr.mono (by decide)) (by rfl) T.g__law_took T.F__law_took.kp T.b__law_took .nil pass0 (pa_cons (pe_call (ok__law_cut T) (hr.mono (by decide)) (by rfl) T.g__law_cut T.F__law_cut.kp T.b__law_cut .nil pass0 (pa_cons (pv 0) (pa_cons (pv 1) (pa_cons (pv 2) (pa_cons pe_int pa_nil))))) (pa_cons (pv 2) pa_nil))) po_none (po_some pe_int))) (pss_cons (ps_set (i := 5) sc_law.nd rfl (Or.inl rfl) (pe_slice (kSl K) (pe_callB (kSortedSet w rfl) (by rfl) T.z_sorted PyProof.Rows.boot_sorted (pa_cons (pe_callTy (kSetL K w rfl) (by rfl) T.z_set PyProof.Rows.boot_set (pa_cons (pe_op (kAdd K) (pv 3) (pv 4)) pa_nil)) pa_nil)) po_none (po_some pe_int))) (pss_cons (ps_set (i := 6) sc_law.nd rfl (Or.inl rfl) (pe_call (ok_fewest_cuts T) (hr.mono (by decide)) (by rfl) T.g_fewest_cuts T.F_fewest_cuts.kp T.b_fewest_cuts .nil passL (pa_cons (pv 2) (pa_cons (pv 5) pa_nil)))) (pss_cons (ps_set (i := 7) sc_law.nd rfl (Or.inl rfl) (pe_and (pe_cmpR (kNe K hr.units) (pe_op (kAdd K) (pv 3) (pv 4)) (pe_lst pa_nil) (nomark _)) (pe_and (pe_cmpR (kEq K hr.units) (pe_callB (kLenSet w) (by rfl) T.z_len PySem.boot_len (pa_cons (pe_callTy (kSetL K w rfl) (by rfl) T.z_set PyProof.Rows.boot_set (pa_cons (pe_op (kAdd K) (pv 3) (pv 4)) pa_nil)) pa_nil)) (pe_callB (kLen K) (by rfl) T.z_len PySem.boot_len (pa_cons (pe_op (kAdd K) (pv 3) (pv 4)) pa_nil)) (nomark _)) (pe_one (pe_cmpR op_le (pe_callB (kLen K) (by rfl) T.z_len PySem.boot_len (pa_cons (pe_op (kAdd K) (pv 3) (pv 4)) pa_nil)) pe_int (nomark _)))))) (pss_cons (ps_if (PW.pt (pw_and (pt_val (pv 7)) (pw_and1 (pt_not (pt_chain op_le op_le pe_int (pe_callB (kLen K) (by rfl) T.z_len PySem.boot_len (pa_cons (pv 6) pa_nil)) pe_int))))) (pss_one (ps_ret pe_bl)) pss_nil) (pss_cons (ps_if (PW.pt (pw_or (pt_not (pt_val (pe_call (ok_parts T) (hr.mono (by decide)) (by rfl) T.g_parts T.F_parts.kp T.b_parts .nil passL (pa_cons (pe_lst (pa_cons (pe_tup (pa_cons pe_int (pa_cons (pv 2) (pa_cons pe_int pa_nil)))) pa_nil)) (pa_cons (pv 2) pa_nil))))) (pw_or1 (pt_cmpR op_gt (pe_callB (kLen K) (by rfl) T.z_len PySem.boot_len (pa_cons (pv 6) pa_nil)) (pe_op op_fdivP (pe_op (kAdd K) (pe_callB (kLen K) (by rfl) T.z_len PySem.boot_len (pa_cons (pv 5) pa_nil)) pe_int) pe_int) (nomark _))))) (pss_one (ps_ret pe_bl)) pss_nil) (pss_cons (ps_set (i := 8) sc_law.nd rfl (Or.inl rfl) (pe_lst pa_nil)) (pss_cons (ps_for PassesOwn.never rfl (kiList K (pv 6)) (pg_name (i := 9) sc_law.nd rfl (Or.inl rfl)) (pss_cons (ps_set (i := 10) sc_law.nd rfl (Or.inl rfl) (pe_call (ok_places T) (hr.mono (by decide)) (by rfl) T.g_places T.F_places.kp T.b_places .nil pass0 (pa_cons (pv 9) (pa_cons (pv 2) pa_nil)))) (pss_cons (ps_if (PW.pt (pw_or (pt_cmpR (kEq K hr.units) (pv 10) (pe_lst pa_nil) (nomark _)) (pw_or (pt_cmpR op_ge (pe_call (ok_number_of T) (hr.mono (by decide)) (by rfl) T.g_number_of T.F_number_of.kp T.b_number_of .nil pass0 (pa_cons (pv 2) (pa_cons (pv 10) pa_nil))) (pe_call (ok_how_many T) (hr.mono (by decide)) (by rfl) T.g_how_many T.F_how_many.kp T.b_how_many .nil pass0 (pa_cons (pv 2) pa_nil)) (nomark _)) (pw_or1 (pt_cmpR (kNe K hr.units) (pe_call (ok_list_at T) (hr.mono (by decide)) (by rfl) T.g_list_at T.F_list_at.kp T.b_list_at .nil pass0 (pa_cons (pv 2) (pa_cons (pe_call (ok_number_of T) (hr.mono (by decide)) (by rfl) T.g_number_of T.F_number_of.kp T.b_number_of .nil pass0 (pa_cons (pv 2) (pa_cons (pv 10) pa_nil))) pa_nil))) (pv 10) (nomark _)))))) (pss_one (ps_ret pe_bl)) pss_nil) (pss_one (ps_set (i := 8) sc_law.nd rfl (Or.inl rfl) (pe_op (kAdd K) (pv 8) (pv 10))))))) (pss_one (ps_ret (pe_and (pe_cmpR (kEq K hr.units) (pe_callB (kSorted K) (by rfl) T.z_sorted PyProof.Rows.boot_sorted (pa_cons (pv 8) pa_nil)) (pv 5) (nomark _)) (pe_one (pe_cmpR (kEq K hr.units) (pe_callB (kLenSet w) (by rfl) T.z_len PySem.boot_len (pa_cons (pe_callTy (kSetL K w rfl) (by rfl) T.z_set PyProof.Rows.boot_set (pa_cons (pv 8) pa_nil)) pa_nil)) (pe_callB (kLen K) (by rfl) T.z_len PySem.boot_len (pa_cons (pv 8) pa_nil)) (nomark _)))))))))))))))))), ?_⟩
  try dsimp only [cxOf]
  rintro ds m Q X0 ⟨ns, rfl, hl, rfl, q⟩
  walk_at "d0"
  walk_at "g"
  refine ⟨ns, rfl, hl, fun t tw hp ht => ?_⟩
  walk_at "e"
  walk_at "st"
  refine in__law_draw 0 rfl ht (by omega) (by decide) (by decide) fun l0 tw1 ht1 l00 l01 => ?_
  walk_at "e"
  obtain ⟨l, hl1, hl2, el⟩ : ∃ l : Nat, 1 ≤ l ∧ l ≤ 30 ∧ 1 + l0 = (l : Int) := ⟨(1 + l0).toNat, by omega, by omega, by omega⟩
  rw [el]
  clear el l00 l01
  walk_at "st"
  refine in__law_cut 0 rfl ht1 (by omega) (by omega) (by omega) (by decide) (by decide) fun c1 tw2 k2 hk2 ht2 hc1 => ?_
  have ok1 : CutOk c1 := hc1.ok (by omega) (by omega)
  walk_at "e"
  rw [cutL_take _ (by decide), show Int.toNat 8 = 8 from rfl]
  obtain ⟨r1, e1, nz1, b1, n1⟩ := took8 ok1 (l := (l : Int)) (by omega)
  rw [e1]
  clear e1 hc1 ok1
  with_reducible refine gs_bad ?_ ?_
  · walk_at "e"
    refine gc_sorted fun so p1 p2 => ?_
    obtain ⟨w1, ev1⟩ := risen_ev nz1 p1 p2
    walk_at "e"
    refine in_fewest_cuts (by omega) (by omega) (by rw [p1.length_eq]; exact n1) (fun x hx => b1 x (p1.mem_iff.mp hx)) w1 fun best hb => ?_
    have hev := best_even hb w1 ev1
    walk_at "e"
    have e : deq (D.int ((best.map cutOfM).length : Int)) (D.int (if (!deq (intsD (spanL r1)) (D.lst [])) = true then 1 else 0)) = true := by
      rw [deq_int, show D.lst [] = intsD [] from rfl, deq_ints, List.length_map, hev]
      by_cases hn : so = []
      · have hn2 : spanL r1 = [] := by rw [hn] at p1; exact (List.Perm.nil_eq p1).symm
        rw [if_pos hn, decide_eq_true hn2]; rfl
      · have hn2 : ¬ spanL r1 = [] := fun z => hn (by rw [z] at p1; exact List.Perm.eq_nil p1)
        rw [if_neg hn, decide_eq_false hn2]; rfl
    rw [if_pos e]
    walk_at "e"
    refine in_number_of hl1 hl2 (by omega) (raw_span b1 nz1) fun j hj => ?_
    have hjl := lists_lt hl2 hj
    walk_at "e"
    refine in_how_many hl1 hl2 ?_
    walk_at "e"
    first
      | exact ⟨rfl, rfl⟩
      | (rw [decide_eq_true (by omega)]; exact ⟨rfl, rfl⟩)
  walk_at "st"
  refine in__law_cut 0 rfl ht2 (by omega) (by omega) (by omega) (by decide) (by decide) fun c2 tw3 k3 hk3 ht3 hc2 => ?_
  have ok2 : CutOk c2 := hc2.ok (by omega) (by omega)
  walk_at "e"
  rw [cutL_take _ (by decide), show Int.toNat 8 = 8 from rfl]
  obtain ⟨r2, e2, nz2, b2, n2⟩ := took8 ok2 (l := (l : Int)) (by omega)
  rw [e2]
  clear e2 hc2 ok2
  obtain ⟨S, hS⟩ : ∃ S, spanL r1 = S := ⟨_, rfl⟩
  obtain ⟨U, hU⟩ : ∃ U, spanL r2 = U := ⟨_, rfl⟩
  have evS : ∀ so : List Int, so.Perm S → so.Pairwise (· ≤ ·) → so.Pairwise (· < ·) ∧ evB so = true := fun so p w => risen_ev nz1 (by rw [hS]; exact p) w
  have evU : ∀ so : List Int, so.Perm U → so.Pairwise (· ≤ ·) → so.Pairwise (· < ·) ∧ evB so = true := fun so p w => risen_ev nz2 (by rw [hU]; exact p) w
  rw [hS] at b1 n1 ⊢
  rw [hU] at b2 n2 ⊢
  have hSU : (S ++ U).length ≤ 16 := by rw [List.length_append]; omega
  have bSU : ∀ x ∈ S ++ U, 0 ≤ x ∧ x < (l : Int) := fun x hx => (List.mem_append.mp hx).elim (b1 x) (b2 x)
  refine gs_seq (gs_asg (ge_sl (ge_sortSet ?_)))
  walk_at "e"
  refine g2_addII (by omega) ?_
  refine ⟨S ++ U, rfl, by omega, fun ms h1 h2 => by have := nd_len h1 h2; omega, fun so so1 so2 => ?_⟩
  walk_at "e"
  rw [cutL_take _ (by decide), show Int.toNat 8 = 8 from rfl]
  obtain ⟨B, hB⟩ : ∃ B, so.take 8 = B := ⟨_, rfl⟩
  have B1 : B.Pairwise (· < ·) := by rw [← hB]; exact so1.sublist (List.take_sublist 8 so)
  have B2 : ∀ x ∈ B, 0 ≤ x ∧ x < (l : Int) := fun x hx => bSU x ((so2 x).mp (List.mem_of_mem_take (by rw [hB]; exact hx)))
  have B3 : B.length ≤ 8 := by rw [← hB, List.length_take]; omega
  rw [hB]
  walk_at "st"
  refine in_fewest_cuts (by omega) (by omega) B3 B2 B1 fun best hb => ?_
  have hh := best_half hb B1
  have hbl := best_len hb B1
  walk_at "e"
  refine gs_seq (gs_asg (ge.mono (Q1 := fun x m' => ∃ b, x = D.bl b ∧ m' = [(t, MO.lst (tw3.map D.int))] ∧ (b = true → S ++ U ≠ [] ∧ (S ++ U).Nodup ∧ (S ++ U).length ≤ 8)) ?_ ?_))
  · refine ge_andV ?_
    walk_at "e"
    refine g2_addII (by omega) ?_
    walk_at "e"
    rw [show D.lst [] = intsD [] from rfl, deq_ints]
    refine ite_b (fun z => ⟨false, rfl, rfl, fun h => by cases h⟩) (fun z => ?_)
    have z1 : S ++ U ≠ [] := of_decide_eq_false z
    refine ge_andV (ge_op (ge_lenSet ?_))
    walk_at "e"
    refine g2_addII (by omega) ?_
    refine ⟨S ++ U, rfl, by omega, fun ms h1 h2 => ?_⟩
    walk_at "e"
    refine g2_addII (by omega) ?_
    walk_at "e"
    rw [deq_int]
    refine ite_dec (fun y => ?_) (fun y => ⟨false, rfl, rfl, fun h => by cases h⟩)
    have y1 : (S ++ U).Nodup := nodup_of_len h1 h2 (by omega)
    walk_at "e"
    refine g2_addII (by omega) ?_
    walk_at "e"
    refine ⟨rfl, fun h => ⟨z1, y1, ?_⟩⟩
    have h9 := of_decide_eq_true h
    omega
  rintro x m' ⟨b, rfl, rfl, hun⟩
  walk_at "e"
  with_reducible refine gs_bad ?_ ?_
  · walk_at "e"
    refine ite_b (fun z => ?_) (fun z => ⟨rfl, rfl⟩)
    obtain ⟨k1, k2, k3⟩ := hun z
    have hso : so = B := by
      rw [← hB, List.take_of_length_le]
      have := nd_len (pw_nodup so1) fun x hx => (so2 x).mp hx
      omega
    have memB : ∀ x, x ∈ B ↔ x ∈ S ∨ x ∈ U := fun x => by rw [← hso, so2, List.mem_append]
    have hne : B ≠ [] := fun k => k1 (List.eq_nil_iff_forall_not_mem.mpr fun x hx => by
      have := (memB x).mpr (List.mem_append.mp hx)
      rw [k] at this
      cases this)
    obtain ⟨S', p1, p2⟩ := ex_sorted S
    obtain ⟨U', p3, p4⟩ := ex_sorted U
    obtain ⟨a1, a2⟩ := evS S' p1 p2
    obtain ⟨a3, a4⟩ := evU U' p3 p4
    have dis := (List.nodup_append.mp k2).2.2
    obtain ⟨k, kl, ks⟩ := two_rows B1 a1 a2 a3 a4 (fun x => by rw [memB, p1.mem_iff, p3.mem_iff]) fun x hx hx2 => dis x (p1.mem_iff.mp hx) x (p3.mem_iff.mp hx2) rfl
    have g1 := hb.few.2 k ks
    have g2 := splits_pos hb.few.1 hne
    have hml : (best.map cutOfM).length = best.length := List.length_map ..
    walk_at "e"
    first
      | exact ⟨rfl, rfl⟩
      | (rw [decide_eq_true (by omega)]; exact ⟨rfl, rfl⟩)
  with_reducible refine gs_bad ?_ ?_
  · walk_at "e"
    refine in_parts (cs := [(some 0, some (l : Int), some 1)]) (by simp) (fun c hc => ?_) (by omega) (by omega) fun ns' q1 q2 => ?_
    · rw [List.mem_singleton.mp hc]
      exact whole_ok hl2
    have e9 : ns' = rgI (l : Int) := by
      refine perm_sorted (q1.trans ?_) q2 ?_
      · rw [List.flatMap_cons, List.flatMap_nil, List.append_nil, whole_span]
      · unfold rgI
        rw [List.pairwise_map]
        exact List.pairwise_lt_range.imp fun h => by omega
    have hml : (best.map cutOfM).length = best.length := List.length_map ..
    walk_at "e"
    rw [Int.fdiv_eq_ediv_of_nonneg _ (by decide)]
    exact ⟨decide_eq_false (by omega), rfl⟩
  walk_at "st"
  have hflat : ∀ i, ((best.take i).flatMap spanL).length ≤ 8 := fun i => by
    have h1 := hb.perm.length_eq
    rw [← List.take_append_drop i best, List.flatMap_append, List.length_append] at h1
    omega
  refine gs_seq (gs_for (gi_list ?_))
  walk_at "e"
  refine gfor_inv (fun i d' m' => ∃ y9 y10, m' = [(t, MO.lst (tw3.map D.int))] ∧ d' = [some (.scr K ns), some (.ref t), some (.int (l : Int)), some (intsD S), some (intsD U), some (intsD B), some (chainD (best.map cutOfM)), some (.bl b), some (intsD ((best.take i).flatMap spanL)), y9, y10]) _ (fun i x d' m' hx hP => ?_) (fun d' m' hP => ?_) ⟨none, none, rfl, rfl⟩
  · obtain ⟨y9, y10, rfl, rfl⟩ := hP
    rw [List.getElem?_map, List.getElem?_map] at hx
    obtain ⟨c, hc, e⟩ := Option.map_eq_some_iff.mp hx
    obtain ⟨r, hr, e'⟩ := Option.map_eq_some_iff.mp hc
    subst e'
    subst e
    have hin := hb.inn r (List.mem_of_getElem? hr)
    have hco : CutOk (cutOfM r) := cutOf_ok (l := (l : Int)) (by omega) hin.toSpanIn
    have hsc := span_cutOf (l := (l : Int)) (by omega) hin.toSpanIn
    have hrl : (spanL r).length ≤ 1000 := by
      have := hin.nl
      rw [spanL_len]
      omega
    walk_at "e"
    refine gs_seq (gs_asg ?_)
    walk_at "e"
    rw [hsc]
    with_reducible refine gs_bad ?_ ?_
    · walk_at "e"
      rw [show D.lst [] = intsD [] from rfl, deq_ints, decide_eq_false hin.ne]
      walk_at "e"
      refine in_number_of hl1 hl2 hrl (raw_span hin.toSpanIn.all hin.nz) fun j hj => ?_
      have hjl := lists_lt hl2 hj
      walk_at "e"
      refine in_how_many hl1 hl2 ?_
      walk_at "e"
      refine in_number_of hl1 hl2 hrl (raw_span hin.toSpanIn.all hin.nz) fun j2 hj2 => ?_
      walk_at "e"
      refine ⟨l, j2, spanL r, rfl, hl1, hl2, hj2, ?_⟩
      walk_at "e"
      rw [deq_ints, decide_eq_true rfl]
      exact ⟨rfl, rfl⟩
    refine gs_asg ?_
    walk_at "e"
    refine g2_addII (by have := hflat i; omega) ?_
    walk_at "e"
    refine ⟨some (cutD (cutOfM r)), some (intsD (spanL r)), rfl, ?_⟩
    rw [List.take_add_one, hr, List.flatMap_append]
    simp only [Option.toList_some, List.flatMap_cons, List.flatMap_nil, List.append_nil]
  · obtain ⟨y9, y10, rfl, rfl⟩ := hP
    rw [List.length_map, List.length_map, List.take_length]
    have hp8 := hb.perm
    have h8 : (best.flatMap spanL).length ≤ 8 := by rw [hp8.length_eq]; exact B3
    show gs xc0 _ _ _ _
    refine gs_ret (ge_andV ?_)
    walk_at "e"
    refine gc_sorted fun so3 q3 q4 => ?_
    have e3 : so3 = B := perm_sorted (q3.trans hp8) q4 (B1.imp fun h => by omega)
    subst e3
    walk_at "e"
    rw [deq_ints, decide_eq_true rfl]
    refine ite_t rfl ?_
    refine ge_op (ge_lenSet ?_)
    walk_at "e"
    refine ⟨_, rfl, by omega, fun ms h1 h2 => ?_⟩
    have e4 : ms.length = (best.flatMap spanL).length := ((List.perm_ext_iff_of_nodup h1 (hp8.nodup_iff.mpr (pw_nodup B1))).mpr h2).length_eq
    walk_at "e"
    rw [deq_int, decide_eq_true (by omega)]
    exact q _

end
/-! ### what the top has left -/
theorem all_mk {l : PySem.W.OpenLaw} {w : World} {K : PySem.W.Frag} {h : Heap} {mg : Str → Option Value} {fa : Addr} (X : K.In h) (G : h.Ns mainGlobals mg) (hfa : mg "law" = some (.ref fa))
    {C_CutError : Addr} {C_BadCut : Addr} {C_BadLong : Addr} {C_BadRow : Addr} {C_BadNumber : Addr} {f0 : Addr} {od0 an0 : Option Addr} {sl0 : Array (Option Value)} {oc0 kV0 dc0 pm0 cd0 ct0 : Value} {f1 : Addr} {od1 an1 : Option Addr} {sl1 : Array (Option Value)} {oc1 kV1 dc1 pm1 cd1 ct1 : Value} {f2 : Addr} {od2 an2 : Option Addr} {sl2 : Array (Option Value)} {oc2 kV2 dc2 pm2 cd2 ct2 : Value} {f3 : Addr} {od3 an3 : Option Addr} {sl3 : Array (Option Value)} {oc3 kV3 dc3 pm3 cd3 ct3 : Value} {f4 : Addr} {od4 an4 : Option Addr} {sl4 : Array (Option Value)} {oc4 kV4 dc4 pm4 cd4 ct4 : Value} {dT4 : Addr} {dc4_1 : Value} {dd4 : Option Addr} {dn4 : Nat} {dsl4 : Array (Option Value)} {dk4_0 : Tok} {f5 : Addr} {od5 an5 : Option Addr} {sl5 : Array (Option Value)} {oc5 kV5 dc5 pm5 cd5 ct5 : Value} {f6 : Addr} {od6 an6 : Option Addr} {sl6 : Array (Option Value)} {oc6 kV6 dc6 pm6 cd6 ct6 : Value} {f7 : Addr} {od7 an7 : Option Addr} {sl7 : Array (Option Value)} {oc7 kV7 dc7 pm7 cd7 ct7 : Value} {f8 : Addr} {od8 an8 : Option Addr} {sl8 : Array (Option Value)} {oc8 kV8 dc8 pm8 cd8 ct8 : Value} {f9 : Addr} {od9 an9 : Option Addr} {sl9 : Array (Option Value)} {oc9 kV9 dc9 pm9 cd9 ct9 : Value} {f10 : Addr} {od10 an10 : Option Addr} {sl10 : Array (Option Value)} {oc10 kV10 dc10 pm10 cd10 ct10 : Value} {f11 : Addr} {od11 an11 : Option Addr} {sl11 : Array (Option Value)} {oc11 kV11 dc11 pm11 cd11 ct11 : Value} {f12 : Addr} {od12 an12 : Option Addr} {sl12 : Array (Option Value)} {oc12 kV12 dc12 pm12 cd12 ct12 : Value} {f13 : Addr} {od13 an13 : Option Addr} {sl13 : Array (Option Value)} {oc13 kV13 dc13 pm13 cd13 ct13 : Value} {f14 : Addr} {od14 an14 : Option Addr} {sl14 : Array (Option Value)} {oc14 kV14 dc14 pm14 cd14 ct14 : Value} {f15 : Addr} {od15 an15 : Option Addr} {sl15 : Array (Option Value)} {oc15 kV15 dc15 pm15 cd15 ct15 : Value} {f16 : Addr} {od16 an16 : Option Addr} {sl16 : Array (Option Value)} {oc16 kV16 dc16 pm16 cd16 ct16 : Value} {f17 : Addr} {od17 an17 : Option Addr} {sl17 : Array (Option Value)} {oc17 kV17 dc17 pm17 cd17 ct17 : Value} {f18 : Addr} {od18 an18 : Option Addr} {sl18 : Array (Option Value)} {oc18 kV18 dc18 pm18 cd18 ct18 : Value} {f19 : Addr} {od19 an19 : Option Addr} {sl19 : Array (Option Value)} {oc19 kV19 dc19 pm19 cd19 ct19 : Value} {f20 : Addr} {od20 an20 : Option Addr} {sl20 : Array (Option Value)} {oc20 kV20 dc20 pm20 cd20 ct20 : Value} {f21 : Addr} {od21 an21 : Option Addr} {sl21 : Array (Option Value)} {oc21 kV21 dc21 pm21 cd21 ct21 : Value} {f22 : Addr} {od22 an22 : Option Addr} {sl22 : Array (Option Value)} {oc22 kV22 dc22 pm22 cd22 ct22 : Value} {f23 : Addr} {od23 an23 : Option Addr} {sl23 : Array (Option Value)} {oc23 kV23 dc23 pm23 cd23 ct23 : Value} {f24 : Addr} {od24 an24 : Option Addr} {sl24 : Array (Option Value)} {oc24 kV24 dc24 pm24 cd24 ct24 : Value} {f25 : Addr} {od25 an25 : Option Addr} {sl25 : Array (Option Value)} {oc25 kV25 dc25 pm25 cd25 ct25 : Value} {f26 : Addr} {od26 an26 : Option Addr} {sl26 : Array (Option Value)} {oc26 kV26 dc26 pm26 cd26 ct26 : Value} {f27 : Addr} {od27 an27 : Option Addr} {sl27 : Array (Option Value)} {oc27 kV27 dc27 pm27 cd27 ct27 : Value} {f28 : Addr} {od28 an28 : Option Addr} {sl28 : Array (Option Value)} {oc28 kV28 dc28 pm28 cd28 ct28 : Value} {ut0 : Tok} {ut1 : Tok} {ut2 : Tok}
    (aC_CutError : PySem.W.nsIn K mainGlobals "CutError" = some (some (.ref C_CutError)))
    (hd_CutError : PySem.W.hasDictIn K C_CutError = true) (ty_CutError : PySem.W.typeIn K (.ref C_CutError) = some (.type "type"))
    (aC_BadCut : PySem.W.nsIn K mainGlobals "BadCut" = some (some (.ref C_BadCut)))
    (hd_BadCut : PySem.W.hasDictIn K C_BadCut = true) (ty_BadCut : PySem.W.typeIn K (.ref C_BadCut) = some (.type "type"))
    (aC_BadLong : PySem.W.nsIn K mainGlobals "BadLong" = some (some (.ref C_BadLong)))
    (hd_BadLong : PySem.W.hasDictIn K C_BadLong = true) (ty_BadLong : PySem.W.typeIn K (.ref C_BadLong) = some (.type "type"))
    (aC_BadRow : PySem.W.nsIn K mainGlobals "BadRow" = some (some (.ref C_BadRow)))
    (hd_BadRow : PySem.W.hasDictIn K C_BadRow = true) (ty_BadRow : PySem.W.typeIn K (.ref C_BadRow) = some (.type "type"))
    (aC_BadNumber : PySem.W.nsIn K mainGlobals "BadNumber" = some (some (.ref C_BadNumber)))
    (hd_BadNumber : PySem.W.hasDictIn K C_BadNumber = true) (ty_BadNumber : PySem.W.typeIn K (.ref C_BadNumber) = some (.type "type"))
    (sbE : PySem.W.subIn K (.ref C_CutError) (.type "BaseException") = some true)
    (ex_BadCut : PySem.W.excIn K C_BadCut [.type "IndexError", .type "LookupError", .type "Exception", .type "BaseException", .type "object"] "IndexError.__new__" = true) (kc_BadCut : PySem.W.keepIn K (.ref C_BadCut) = true) (sb_BadCut : PySem.W.subIn K (.ref C_BadCut) (.type "BaseException") = some true)
    (ex_BadLong : PySem.W.excIn K C_BadLong [.type "IndexError", .type "LookupError", .type "Exception", .type "BaseException", .type "object"] "IndexError.__new__" = true) (kc_BadLong : PySem.W.keepIn K (.ref C_BadLong) = true) (sb_BadLong : PySem.W.subIn K (.ref C_BadLong) (.type "BaseException") = some true)
    (ex_BadRow : PySem.W.excIn K C_BadRow [.type "IndexError", .type "LookupError", .type "Exception", .type "BaseException", .type "object"] "IndexError.__new__" = true) (kc_BadRow : PySem.W.keepIn K (.ref C_BadRow) = true) (sb_BadRow : PySem.W.subIn K (.ref C_BadRow) (.type "BaseException") = some true)
    (a0 : PySem.W.nsIn K mainGlobals "is_number" = some (some (.ref f0)))
    (l0 : K.lookup f0 = some ⟨oc0, od0, .func (PySem.W.fnOf "is_number" "is_number" (defArgs s_is_number) (defBody s_is_number) (defScope s_is_number) .none kV0 dc0 pm0 an0 cd0 ct0), sl0⟩)
    (c0 : PySem.W.codeIn K cd0 "is_number" = true)
    (k0 : PySem.W.keepIn K (.ref f0) = true)
    (a1 : PySem.W.nsIn K mainGlobals "is_edge" = some (some (.ref f1)))
    (l1 : K.lookup f1 = some ⟨oc1, od1, .func (PySem.W.fnOf "is_edge" "is_edge" (defArgs s_is_edge) (defBody s_is_edge) (defScope s_is_edge) .none kV1 dc1 pm1 an1 cd1 ct1), sl1⟩)
    (c1 : PySem.W.codeIn K cd1 "is_edge" = true)
    (k1 : PySem.W.keepIn K (.ref f1) = true)
    (a2 : PySem.W.nsIn K mainGlobals "is_cut" = some (some (.ref f2)))
    (l2 : K.lookup f2 = some ⟨oc2, od2, .func (PySem.W.fnOf "is_cut" "is_cut" (defArgs s_is_cut) (defBody s_is_cut) (defScope s_is_cut) .none kV2 dc2 pm2 an2 cd2 ct2), sl2⟩)
    (c2 : PySem.W.codeIn K cd2 "is_cut" = true)
    (k2 : PySem.W.keepIn K (.ref f2) = true)
    (a3 : PySem.W.nsIn K mainGlobals "look_cut" = some (some (.ref f3)))
    (l3 : K.lookup f3 = some ⟨oc3, od3, .func (PySem.W.fnOf "look_cut" "look_cut" (defArgs s_look_cut) (defBody s_look_cut) (defScope s_look_cut) .none kV3 dc3 pm3 an3 cd3 ct3), sl3⟩)
    (c3 : PySem.W.codeIn K cd3 "look_cut" = true)
    (k3 : PySem.W.keepIn K (.ref f3) = true)
    (a4 : PySem.W.nsIn K mainGlobals "look_long" = some (some (.ref f4)))
    (l4 : K.lookup f4 = some ⟨oc4, od4, .func (PySem.W.fnOf "look_long" "look_long" (defArgs s_look_long) (defBody s_look_long) (defScope s_look_long) (.ref dT4) kV4 dc4 pm4 an4 cd4 ct4), sl4⟩)
    (c4 : PySem.W.codeIn K cd4 "look_long" = true)
    (k4 : PySem.W.keepIn K (.ref f4) = true)
    (m4 : K.lookup dT4 = some ⟨dc4_1, dd4, .seq #[.int 1000000000 dk4_0] dn4, dsl4⟩)
    (a5 : PySem.W.nsIn K mainGlobals "edge" = some (some (.ref f5)))
    (l5 : K.lookup f5 = some ⟨oc5, od5, .func (PySem.W.fnOf "edge" "edge" (defArgs s_edge) (defBody s_edge) (defScope s_edge) .none kV5 dc5 pm5 an5 cd5 ct5), sl5⟩)
    (c5 : PySem.W.codeIn K cd5 "edge" = true)
    (k5 : PySem.W.keepIn K (.ref f5) = true)
    (a6 : PySem.W.nsIn K mainGlobals "ends_of" = some (some (.ref f6)))
    (l6 : K.lookup f6 = some ⟨oc6, od6, .func (PySem.W.fnOf "ends_of" "ends_of" (defArgs s_ends_of) (defBody s_ends_of) (defScope s_ends_of) .none kV6 dc6 pm6 an6 cd6 ct6), sl6⟩)
    (c6 : PySem.W.codeIn K cd6 "ends_of" = true)
    (k6 : PySem.W.keepIn K (.ref f6) = true)
    (a7 : PySem.W.nsIn K mainGlobals "plain_span" = some (some (.ref f7)))
    (l7 : K.lookup f7 = some ⟨oc7, od7, .func (PySem.W.fnOf "plain_span" "plain_span" (defArgs s_plain_span) (defBody s_plain_span) (defScope s_plain_span) .none kV7 dc7 pm7 an7 cd7 ct7), sl7⟩)
    (c7 : PySem.W.codeIn K cd7 "plain_span" = true)
    (k7 : PySem.W.keepIn K (.ref f7) = true)
    (a8 : PySem.W.nsIn K mainGlobals "span_of" = some (some (.ref f8)))
    (l8 : K.lookup f8 = some ⟨oc8, od8, .func (PySem.W.fnOf "span_of" "span_of" (defArgs s_span_of) (defBody s_span_of) (defScope s_span_of) .none kV8 dc8 pm8 an8 cd8 ct8), sl8⟩)
    (c8 : PySem.W.codeIn K cd8 "span_of" = true)
    (k8 : PySem.W.keepIn K (.ref f8) = true)
    (a9 : PySem.W.nsIn K mainGlobals "places_of" = some (some (.ref f9)))
    (l9 : K.lookup f9 = some ⟨oc9, od9, .func (PySem.W.fnOf "places_of" "places_of" (defArgs s_places_of) (defBody s_places_of) (defScope s_places_of) .none kV9 dc9 pm9 an9 cd9 ct9), sl9⟩)
    (c9 : PySem.W.codeIn K cd9 "places_of" = true)
    (k9 : PySem.W.keepIn K (.ref f9) = true)
    (a10 : PySem.W.nsIn K mainGlobals "places" = some (some (.ref f10)))
    (l10 : K.lookup f10 = some ⟨oc10, od10, .func (PySem.W.fnOf "places" "places" (defArgs s_places) (defBody s_places) (defScope s_places) .none kV10 dc10 pm10 an10 cd10 ct10), sl10⟩)
    (c10 : PySem.W.codeIn K cd10 "places" = true)
    (k10 : PySem.W.keepIn K (.ref f10) = true)
    (a11 : PySem.W.nsIn K mainGlobals "cut_of" = some (some (.ref f11)))
    (l11 : K.lookup f11 = some ⟨oc11, od11, .func (PySem.W.fnOf "cut_of" "cut_of" (defArgs s_cut_of) (defBody s_cut_of) (defScope s_cut_of) .none kV11 dc11 pm11 an11 cd11 ct11), sl11⟩)
    (c11 : PySem.W.codeIn K cd11 "cut_of" = true)
    (k11 : PySem.W.keepIn K (.ref f11) = true)
    (a12 : PySem.W.nsIn K mainGlobals "parts" = some (some (.ref f12)))
    (l12 : K.lookup f12 = some ⟨oc12, od12, .func (PySem.W.fnOf "parts" "parts" (defArgs s_parts) (defBody s_parts) (defScope s_parts) .none kV12 dc12 pm12 an12 cd12 ct12), sl12⟩)
    (c12 : PySem.W.codeIn K cd12 "parts" = true)
    (k12 : PySem.W.keepIn K (.ref f12) = true)
    (a13 : PySem.W.nsIn K mainGlobals "is_places" = some (some (.ref f13)))
    (l13 : K.lookup f13 = some ⟨oc13, od13, .func (PySem.W.fnOf "is_places" "is_places" (defArgs s_is_places) (defBody s_is_places) (defScope s_is_places) .none kV13 dc13 pm13 an13 cd13 ct13), sl13⟩)
    (c13 : PySem.W.codeIn K cd13 "is_places" = true)
    (k13 : PySem.W.keepIn K (.ref f13) = true)
    (a14 : PySem.W.nsIn K mainGlobals "rows_from" = some (some (.ref f14)))
    (l14 : K.lookup f14 = some ⟨oc14, od14, .func (PySem.W.fnOf "rows_from" "rows_from" (defArgs s_rows_from) (defBody s_rows_from) (defScope s_rows_from) .none kV14 dc14 pm14 an14 cd14 ct14), sl14⟩)
    (c14 : PySem.W.codeIn K cd14 "rows_from" = true)
    (k14 : PySem.W.keepIn K (.ref f14) = true)
    (a15 : PySem.W.nsIn K mainGlobals "fewest_of" = some (some (.ref f15)))
    (l15 : K.lookup f15 = some ⟨oc15, od15, .func (PySem.W.fnOf "fewest_of" "fewest_of" (defArgs s_fewest_of) (defBody s_fewest_of) (defScope s_fewest_of) .none kV15 dc15 pm15 an15 cd15 ct15), sl15⟩)
    (c15 : PySem.W.codeIn K cd15 "fewest_of" = true)
    (k15 : PySem.W.keepIn K (.ref f15) = true)
    (a16 : PySem.W.nsIn K mainGlobals "fewest_cuts" = some (some (.ref f16)))
    (l16 : K.lookup f16 = some ⟨oc16, od16, .func (PySem.W.fnOf "fewest_cuts" "fewest_cuts" (defArgs s_fewest_cuts) (defBody s_fewest_cuts) (defScope s_fewest_cuts) .none kV16 dc16 pm16 an16 cd16 ct16), sl16⟩)
    (c16 : PySem.W.codeIn K cd16 "fewest_cuts" = true)
    (k16 : PySem.W.keepIn K (.ref f16) = true)
    (a17 : PySem.W.nsIn K mainGlobals "how_many" = some (some (.ref f17)))
    (l17 : K.lookup f17 = some ⟨oc17, od17, .func (PySem.W.fnOf "how_many" "how_many" (defArgs s_how_many) (defBody s_how_many) (defScope s_how_many) .none kV17 dc17 pm17 an17 cd17 ct17), sl17⟩)
    (c17 : PySem.W.codeIn K cd17 "how_many" = true)
    (k17 : PySem.W.keepIn K (.ref f17) = true)
    (a18 : PySem.W.nsIn K mainGlobals "lists_of" = some (some (.ref f18)))
    (l18 : K.lookup f18 = some ⟨oc18, od18, .func (PySem.W.fnOf "lists_of" "lists_of" (defArgs s_lists_of) (defBody s_lists_of) (defScope s_lists_of) .none kV18 dc18 pm18 an18 cd18 ct18), sl18⟩)
    (c18 : PySem.W.codeIn K cd18 "lists_of" = true)
    (k18 : PySem.W.keepIn K (.ref f18) = true)
    (a19 : PySem.W.nsIn K mainGlobals "number_of" = some (some (.ref f19)))
    (l19 : K.lookup f19 = some ⟨oc19, od19, .func (PySem.W.fnOf "number_of" "number_of" (defArgs s_number_of) (defBody s_number_of) (defScope s_number_of) .none kV19 dc19 pm19 an19 cd19 ct19), sl19⟩)
    (c19 : PySem.W.codeIn K cd19 "number_of" = true)
    (k19 : PySem.W.keepIn K (.ref f19) = true)
    (a20 : PySem.W.nsIn K mainGlobals "list_at" = some (some (.ref f20)))
    (l20 : K.lookup f20 = some ⟨oc20, od20, .func (PySem.W.fnOf "list_at" "list_at" (defArgs s_list_at) (defBody s_list_at) (defScope s_list_at) .none kV20 dc20 pm20 an20 cd20 ct20), sl20⟩)
    (c20 : PySem.W.codeIn K cd20 "list_at" = true)
    (k20 : PySem.W.keepIn K (.ref f20) = true)
    (a21 : PySem.W.nsIn K mainGlobals "_law_town" = some (some (.ref f21)))
    (l21 : K.lookup f21 = some ⟨oc21, od21, .func (PySem.W.fnOf "_law_town" "_law_town" (defArgs s__law_town) (defBody s__law_town) (defScope s__law_town) .none kV21 dc21 pm21 an21 cd21 ct21), sl21⟩)
    (c21 : PySem.W.codeIn K cd21 "_law_town" = true)
    (k21 : PySem.W.keepIn K (.ref f21) = true)
    (a22 : PySem.W.nsIn K mainGlobals "_law_draw" = some (some (.ref f22)))
    (l22 : K.lookup f22 = some ⟨oc22, od22, .func (PySem.W.fnOf "_law_draw" "_law_draw" (defArgs s__law_draw) (defBody s__law_draw) (defScope s__law_draw) .none kV22 dc22 pm22 an22 cd22 ct22), sl22⟩)
    (c22 : PySem.W.codeIn K cd22 "_law_draw" = true)
    (k22 : PySem.W.keepIn K (.ref f22) = true)
    (a23 : PySem.W.nsIn K mainGlobals "_law_pick" = some (some (.ref f23)))
    (l23 : K.lookup f23 = some ⟨oc23, od23, .func (PySem.W.fnOf "_law_pick" "_law_pick" (defArgs s__law_pick) (defBody s__law_pick) (defScope s__law_pick) .none kV23 dc23 pm23 an23 cd23 ct23), sl23⟩)
    (c23 : PySem.W.codeIn K cd23 "_law_pick" = true)
    (k23 : PySem.W.keepIn K (.ref f23) = true)
    (a24 : PySem.W.nsIn K mainGlobals "_law_edge" = some (some (.ref f24)))
    (l24 : K.lookup f24 = some ⟨oc24, od24, .func (PySem.W.fnOf "_law_edge" "_law_edge" (defArgs s__law_edge) (defBody s__law_edge) (defScope s__law_edge) .none kV24 dc24 pm24 an24 cd24 ct24), sl24⟩)
    (c24 : PySem.W.codeIn K cd24 "_law_edge" = true)
    (k24 : PySem.W.keepIn K (.ref f24) = true)
    (a25 : PySem.W.nsIn K mainGlobals "_law_cut" = some (some (.ref f25)))
    (l25 : K.lookup f25 = some ⟨oc25, od25, .func (PySem.W.fnOf "_law_cut" "_law_cut" (defArgs s__law_cut) (defBody s__law_cut) (defScope s__law_cut) .none kV25 dc25 pm25 an25 cd25 ct25), sl25⟩)
    (c25 : PySem.W.codeIn K cd25 "_law_cut" = true)
    (k25 : PySem.W.keepIn K (.ref f25) = true)
    (a26 : PySem.W.nsIn K mainGlobals "_law_ends" = some (some (.ref f26)))
    (l26 : K.lookup f26 = some ⟨oc26, od26, .func (PySem.W.fnOf "_law_ends" "_law_ends" (defArgs s__law_ends) (defBody s__law_ends) (defScope s__law_ends) .none kV26 dc26 pm26 an26 cd26 ct26), sl26⟩)
    (c26 : PySem.W.codeIn K cd26 "_law_ends" = true)
    (k26 : PySem.W.keepIn K (.ref f26) = true)
    (a27 : PySem.W.nsIn K mainGlobals "_law_took" = some (some (.ref f27)))
    (l27 : K.lookup f27 = some ⟨oc27, od27, .func (PySem.W.fnOf "_law_took" "_law_took" (defArgs s__law_took) (defBody s__law_took) (defScope s__law_took) .none kV27 dc27 pm27 an27 cd27 ct27), sl27⟩)
    (c27 : PySem.W.codeIn K cd27 "_law_took" = true)
    (k27 : PySem.W.keepIn K (.ref f27) = true)
    (a28 : PySem.W.nsIn K mainGlobals "law" = some (some (.ref f28)))
    (l28 : K.lookup f28 = some ⟨oc28, od28, .func (PySem.W.fnOf "law" "law" (defArgs s_law) (defBody s_law) (defScope s_law) .none kV28 dc28 pm28 an28 cd28 ct28), sl28⟩)
    (c28 : PySem.W.codeIn K cd28 "law" = true)
    (k28 : PySem.W.keepIn K (.ref f28) = true)
    (z0 : PySem.W.nsIn K mainGlobals "IndexError" = some none)
    (z1 : PySem.W.nsIn K mainGlobals "all" = some none)
    (z2 : PySem.W.nsIn K mainGlobals "bool" = some none)
    (z3 : PySem.W.nsIn K mainGlobals "int" = some none)
    (z4 : PySem.W.nsIn K mainGlobals "isinstance" = some none)
    (z5 : PySem.W.nsIn K mainGlobals "len" = some none)
    (z6 : PySem.W.nsIn K mainGlobals "list" = some none)
    (z7 : PySem.W.nsIn K mainGlobals "max" = some none)
    (z8 : PySem.W.nsIn K mainGlobals "min" = some none)
    (z9 : PySem.W.nsIn K mainGlobals "range" = some none)
    (z10 : PySem.W.nsIn K mainGlobals "set" = some none)
    (z11 : PySem.W.nsIn K mainGlobals "sorted" = some none)
    (z12 : PySem.W.nsIn K mainGlobals "sum" = some none)
    (z13 : PySem.W.nsIn K mainGlobals "tuple" = some none)
    (z14 : PySem.W.nsIn K mainGlobals "zip" = some none)
    (u0 : PySem.W.nsIn K mainGlobals "BOUND" = some (some (.int 1000000000 ut0)))
    (u1 : PySem.W.nsIn K mainGlobals "MOST_ROW" = some (some (.int 200 ut1)))
    (u2 : PySem.W.nsIn K mainGlobals "MOST_LISTED" = some (some (.int 30 ut2))) :
    ∃ fd : FuncData, (∀ (s : Shared) (v : Value), BindsTo s fd ⟨[v], []⟩ [("script", v)]) ∧ ∀ base : Heap, K.In base → base.Ns mainGlobals mg → FnOk l.prog w K mg base CX0 13 fa fd ["script"] (spOf (T_law K)) := by
  have e := hfa.symm.trans (PySem.W.mg_of X G a28)
  cases e
  have F0 := fun_mk (st := s_is_number) l0 c0 k0
  have b0 := F0.binds (ps := ["thing", "least", "most"]) fun _ _ _ _ _ _ us hl => match us, hl with | [_, _, _], _ => rfl
  have F1 := fun_mk (st := s_is_edge) l1 c1 k1
  have b1 := F1.binds (ps := ["thing"]) fun _ _ _ _ _ _ us hl => match us, hl with | [_], _ => rfl
  have F2 := fun_mk (st := s_is_cut) l2 c2 k2
  have b2 := F2.binds (ps := ["thing"]) fun _ _ _ _ _ _ us hl => match us, hl with | [_], _ => rfl
  have F3 := fun_mk (st := s_look_cut) l3 c3 k3
  have b3 := F3.binds (ps := ["cut"]) fun _ _ _ _ _ _ us hl => match us, hl with | [_], _ => rfl
  have F4 : FunD K "look_long" "look_long" (defArgs s_look_long) (defBody s_look_long) (defScope s_look_long) [V.int 1000000000] [] f4 _ := ⟨⟨oc4, od4, .ref dT4, kV4, dc4, pm4, an4, cd4, ct4, sl4, rfl, l4, c4, .inr ⟨by simp, dT4, _, [.int 1000000000 dk4_0], dn4, rfl, m4, rfl, .cons ⟨_, rfl⟩ (.nil)⟩, .inl rfl⟩, k4⟩
  obtain ⟨db4, vb4, b4⟩ := F4.binds1 (ps := ["long", "most"]) 2 1 (by simp) rfl fun T kV doc pm an cdv ct us its hl1 hl2 => match us, hl1, its, hl2 with | [_, _], _, [_], _ => ⟨_, rfl, rfl⟩
  cases vb4
  obtain ⟨ds4, vd4, bd4⟩ := F4.binds1 (ps := ["long", "most"]) 1 0 (by simp) rfl fun T kV doc pm an cdv ct us its hl1 hl2 => match us, hl1, its, hl2 with | [_], _, [_], _ => ⟨_, rfl, rfl⟩
  have kb4 := kbn_of F4 (ps := ["long", "most"]) 1 ["most"] (by simp) fun T kV doc pm an cdv ct us its ws hl1 hl2 hl3 => match us, hl1, its, hl2, ws, hl3 with | [_], _, [_], _, [_], _ => ⟨_, rfl, rfl⟩
  have F5 := fun_mk (st := s_edge) l5 c5 k5
  have b5 := F5.binds (ps := ["number", "long", "plain", "low", "high"]) fun _ _ _ _ _ _ us hl => match us, hl with | [_, _, _, _, _], _ => rfl
  have F6 := fun_mk (st := s_ends_of) l6 c6 k6
  have b6 := F6.binds (ps := ["cut", "long"]) fun _ _ _ _ _ _ us hl => match us, hl with | [_, _], _ => rfl
  have F7 := fun_mk (st := s_plain_span) l7 c7 k7
  have b7 := F7.binds (ps := ["first", "step", "many"]) fun _ _ _ _ _ _ us hl => match us, hl with | [_, _, _], _ => rfl
  have F8 := fun_mk (st := s_span_of) l8 c8 k8
  have b8 := F8.binds (ps := ["cut", "long"]) fun _ _ _ _ _ _ us hl => match us, hl with | [_, _], _ => rfl
  have F9 := fun_mk (st := s_places_of) l9 c9 k9
  have b9 := F9.binds (ps := ["one"]) fun _ _ _ _ _ _ us hl => match us, hl with | [_], _ => rfl
  have F10 := fun_mk (st := s_places) l10 c10 k10
  have b10 := F10.binds (ps := ["cut", "long"]) fun _ _ _ _ _ _ us hl => match us, hl with | [_, _], _ => rfl
  have F11 := fun_mk (st := s_cut_of) l11 c11 k11
  have b11 := F11.binds (ps := ["one"]) fun _ _ _ _ _ _ us hl => match us, hl with | [_], _ => rfl
  have F12 := fun_mk (st := s_parts) l12 c12 k12
  have b12 := F12.binds (ps := ["cuts", "long"]) fun _ _ _ _ _ _ us hl => match us, hl with | [_, _], _ => rfl
  have F13 := fun_mk (st := s_is_places) l13 c13 k13
  have b13 := F13.binds (ps := ["thing", "long"]) fun _ _ _ _ _ _ us hl => match us, hl with | [_, _], _ => rfl
  have F14 := fun_mk (st := s_rows_from) l14 c14 k14
  have b14 := F14.binds (ps := ["places"]) fun _ _ _ _ _ _ us hl => match us, hl with | [_], _ => rfl
  have F15 := fun_mk (st := s_fewest_of) l15 c15 k15
  have b15 := F15.binds (ps := ["places", "known"]) fun _ _ _ _ _ _ us hl => match us, hl with | [_, _], _ => rfl
  have F16 := fun_mk (st := s_fewest_cuts) l16 c16 k16
  have b16 := F16.binds (ps := ["long", "places"]) fun _ _ _ _ _ _ us hl => match us, hl with | [_, _], _ => rfl
  have F17 := fun_mk (st := s_how_many) l17 c17 k17
  have b17 := F17.binds (ps := ["long"]) fun _ _ _ _ _ _ us hl => match us, hl with | [_], _ => rfl
  have F18 := fun_mk (st := s_lists_of) l18 c18 k18
  have b18 := F18.binds (ps := ["long"]) fun _ _ _ _ _ _ us hl => match us, hl with | [_], _ => rfl
  have F19 := fun_mk (st := s_number_of) l19 c19 k19
  have b19 := F19.binds (ps := ["long", "places"]) fun _ _ _ _ _ _ us hl => match us, hl with | [_, _], _ => rfl
  have F20 := fun_mk (st := s_list_at) l20 c20 k20
  have b20 := F20.binds (ps := ["long", "number"]) fun _ _ _ _ _ _ us hl => match us, hl with | [_, _], _ => rfl
  have F21 := fun_mk (st := s__law_town) l21 c21 k21
  have b21 := F21.binds (ps := ["script"]) fun _ _ _ _ _ _ us hl => match us, hl with | [_], _ => rfl
  have F22 := fun_mk (st := s__law_draw) l22 c22 k22
  have b22 := F22.binds (ps := ["script", "town", "many"]) fun _ _ _ _ _ _ us hl => match us, hl with | [_, _, _], _ => rfl
  have F23 := fun_mk (st := s__law_pick) l23 c23 k23
  have b23 := F23.binds (ps := ["script", "town", "some"]) fun _ _ _ _ _ _ us hl => match us, hl with | [_, _, _], _ => rfl
  have F24 := fun_mk (st := s__law_edge) l24 c24 k24
  have b24 := F24.binds (ps := ["script", "town", "top"]) fun _ _ _ _ _ _ us hl => match us, hl with | [_, _, _], _ => rfl
  have F25 := fun_mk (st := s__law_cut) l25 c25 k25
  have b25 := F25.binds (ps := ["script", "town", "top", "wide"]) fun _ _ _ _ _ _ us hl => match us, hl with | [_, _, _, _], _ => rfl
  have F26 := fun_mk (st := s__law_ends) l26 c26 k26
  have b26 := F26.binds (ps := ["cut", "long"]) fun _ _ _ _ _ _ us hl => match us, hl with | [_, _], _ => rfl
  have F27 := fun_mk (st := s__law_took) l27 c27 k27
  have b27 := F27.binds (ps := ["cut", "long"]) fun _ _ _ _ _ _ us hl => match us, hl with | [_, _], _ => rfl
  have F28 := fun_mk (st := s_law) l28 c28 k28
  have T : Tx K mg := {
    C_CutError := C_CutError, g_CutError := PySem.W.mg_of X G aC_CutError,
    C_BadCut := C_BadCut, g_BadCut := PySem.W.mg_of X G aC_BadCut,
    C_BadLong := C_BadLong, g_BadLong := PySem.W.mg_of X G aC_BadLong,
    C_BadRow := C_BadRow, g_BadRow := PySem.W.mg_of X G aC_BadRow,
    C_BadNumber := C_BadNumber, g_BadNumber := PySem.W.mg_of X G aC_BadNumber,
    x_BadCut := ⟨PySem.W.mg_of X G aC_BadCut, ex_BadCut, kc_BadCut, sb_BadCut, ty_BadCut⟩,
    x_BadLong := ⟨PySem.W.mg_of X G aC_BadLong, ex_BadLong, kc_BadLong, sb_BadLong, ty_BadLong⟩,
    x_BadRow := ⟨PySem.W.mg_of X G aC_BadRow, ex_BadRow, kc_BadRow, sb_BadRow, ty_BadRow⟩,
    f_is_number := _, fd_is_number := _, F_is_number := F0, b_is_number := b0, g_is_number := PySem.W.mg_of X G a0,
    f_is_edge := _, fd_is_edge := _, F_is_edge := F1, b_is_edge := b1, g_is_edge := PySem.W.mg_of X G a1,
    f_is_cut := _, fd_is_cut := _, F_is_cut := F2, b_is_cut := b2, g_is_cut := PySem.W.mg_of X G a2,
    f_look_cut := _, fd_look_cut := _, F_look_cut := F3, b_look_cut := b3, g_look_cut := PySem.W.mg_of X G a3,
    kb_look_long := kb4,
    f_look_long := _, fd_look_long := _, F_look_long := F4, b_look_long := b4, ds_look_long := ds4, vd_look_long := vd4, bd_look_long := bd4, g_look_long := PySem.W.mg_of X G a4,
    f_edge := _, fd_edge := _, F_edge := F5, b_edge := b5, g_edge := PySem.W.mg_of X G a5,
    f_ends_of := _, fd_ends_of := _, F_ends_of := F6, b_ends_of := b6, g_ends_of := PySem.W.mg_of X G a6,
    f_plain_span := _, fd_plain_span := _, F_plain_span := F7, b_plain_span := b7, g_plain_span := PySem.W.mg_of X G a7,
    f_span_of := _, fd_span_of := _, F_span_of := F8, b_span_of := b8, g_span_of := PySem.W.mg_of X G a8,
    f_places_of := _, fd_places_of := _, F_places_of := F9, b_places_of := b9, g_places_of := PySem.W.mg_of X G a9,
    f_places := _, fd_places := _, F_places := F10, b_places := b10, g_places := PySem.W.mg_of X G a10,
    f_cut_of := _, fd_cut_of := _, F_cut_of := F11, b_cut_of := b11, g_cut_of := PySem.W.mg_of X G a11,
    f_parts := _, fd_parts := _, F_parts := F12, b_parts := b12, g_parts := PySem.W.mg_of X G a12,
    f_is_places := _, fd_is_places := _, F_is_places := F13, b_is_places := b13, g_is_places := PySem.W.mg_of X G a13,
    f_rows_from := _, fd_rows_from := _, F_rows_from := F14, b_rows_from := b14, g_rows_from := PySem.W.mg_of X G a14,
    f_fewest_of := _, fd_fewest_of := _, F_fewest_of := F15, b_fewest_of := b15, g_fewest_of := PySem.W.mg_of X G a15,
    f_fewest_cuts := _, fd_fewest_cuts := _, F_fewest_cuts := F16, b_fewest_cuts := b16, g_fewest_cuts := PySem.W.mg_of X G a16,
    f_how_many := _, fd_how_many := _, F_how_many := F17, b_how_many := b17, g_how_many := PySem.W.mg_of X G a17,
    f_lists_of := _, fd_lists_of := _, F_lists_of := F18, b_lists_of := b18, g_lists_of := PySem.W.mg_of X G a18,
    f_number_of := _, fd_number_of := _, F_number_of := F19, b_number_of := b19, g_number_of := PySem.W.mg_of X G a19,
    f_list_at := _, fd_list_at := _, F_list_at := F20, b_list_at := b20, g_list_at := PySem.W.mg_of X G a20,
    f__law_town := _, fd__law_town := _, F__law_town := F21, b__law_town := b21, g__law_town := PySem.W.mg_of X G a21,
    f__law_draw := _, fd__law_draw := _, F__law_draw := F22, b__law_draw := b22, g__law_draw := PySem.W.mg_of X G a22,
    f__law_pick := _, fd__law_pick := _, F__law_pick := F23, b__law_pick := b23, g__law_pick := PySem.W.mg_of X G a23,
    f__law_edge := _, fd__law_edge := _, F__law_edge := F24, b__law_edge := b24, g__law_edge := PySem.W.mg_of X G a24,
    f__law_cut := _, fd__law_cut := _, F__law_cut := F25, b__law_cut := b25, g__law_cut := PySem.W.mg_of X G a25,
    f__law_ends := _, fd__law_ends := _, F__law_ends := F26, b__law_ends := b26, g__law_ends := PySem.W.mg_of X G a26,
    f__law_took := _, fd__law_took := _, F__law_took := F27, b__law_took := b27, g__law_took := PySem.W.mg_of X G a27,
    c_BOUND := ⟨_, PySem.W.mg_of X G u0⟩,
    c_MOST_ROW := ⟨_, PySem.W.mg_of X G u1⟩,
    c_MOST_LISTED := ⟨_, PySem.W.mg_of X G u2⟩,
    z_IndexError := PySem.W.mg_none_of X G z0,
    z_all := PySem.W.mg_none_of X G z1,
    z_bool := PySem.W.mg_none_of X G z2,
    z_int := PySem.W.mg_none_of X G z3,
    z_isinstance := PySem.W.mg_none_of X G z4,
    z_len := PySem.W.mg_none_of X G z5,
    z_list := PySem.W.mg_none_of X G z6,
    z_max := PySem.W.mg_none_of X G z7,
    z_min := PySem.W.mg_none_of X G z8,
    z_range := PySem.W.mg_none_of X G z9,
    z_set := PySem.W.mg_none_of X G z10,
    z_sorted := PySem.W.mg_none_of X G z11,
    z_sum := PySem.W.mg_none_of X G z12,
    z_tuple := PySem.W.mg_none_of X G z13,
    z_zip := PySem.W.mg_none_of X G z14 }
  exact ⟨PySem.W.fnOf "law" "law" (defArgs s_law) (defBody s_law) (defScope s_law) .none kV28 dc28 pm28 an28 cd28 ct28, fun s v => .of_eq rfl, fun base _ _ => ok_law F28 T⟩
end Gd
open PySem PySem.W PyProof.Rows
set_option maxHeartbeats 0 in
theorem PySem.Challenge.cw_slicechain_k43_whole_parted_places_holds : PySem.Challenge.rw_slicechain_k43_whole_parted_places.Holds := by
  w_on; o_law; k_head; (case hw => w_witness2)
  k_fill
  refine L2.walk_of (l := PySem.Challenge.rw_slicechain_k43_whole_parted_places) (n := 63) (k := 13) (x := "script") (CX := fun _ => L2.CX0) (sp := fun w => Gd.spOf (Gd.T_law _)) rfl (by decide) rfl ⟨rfl, by decide, by decide⟩ (fun w h Y => PySem.W.kIn_of Y) ?F (fun _ _ a ns hl hO hS => Gd.law_start hl hO hS) (fun _ _ _ _ _ h => h)
  case F =>
    intro w mg fa h KX G hmg
    refine' Gd.all_mk KX G hmg ?aC_CutError ?hd_CutError ?ty_CutError ?aC_BadCut ?hd_BadCut ?ty_BadCut ?aC_BadLong ?hd_BadLong ?ty_BadLong ?aC_BadRow ?hd_BadRow ?ty_BadRow ?aC_BadNumber ?hd_BadNumber ?ty_BadNumber ?sbE ?ex_BadCut ?kc_BadCut ?sb_BadCut ?ex_BadLong ?kc_BadLong ?sb_BadLong ?ex_BadRow ?kc_BadRow ?sb_BadRow ?a0 ?l0 ?c0 ?k0 ?a1 ?l1 ?c1 ?k1 ?a2 ?l2 ?c2 ?k2 ?a3 ?l3 ?c3 ?k3 ?a4 ?l4 ?c4 ?k4 ?m4 ?a5 ?l5 ?c5 ?k5 ?a6 ?l6 ?c6 ?k6 ?a7 ?l7 ?c7 ?k7 ?a8 ?l8 ?c8 ?k8 ?a9 ?l9 ?c9 ?k9 ?a10 ?l10 ?c10 ?k10 ?a11 ?l11 ?c11 ?k11 ?a12 ?l12 ?c12 ?k12 ?a13 ?l13 ?c13 ?k13 ?a14 ?l14 ?c14 ?k14 ?a15 ?l15 ?c15 ?k15 ?a16 ?l16 ?c16 ?k16 ?a17 ?l17 ?c17 ?k17 ?a18 ?l18 ?c18 ?k18 ?a19 ?l19 ?c19 ?k19 ?a20 ?l20 ?c20 ?k20 ?a21 ?l21 ?c21 ?k21 ?a22 ?l22 ?c22 ?k22 ?a23 ?l23 ?c23 ?k23 ?a24 ?l24 ?c24 ?k24 ?a25 ?l25 ?c25 ?k25 ?a26 ?l26 ?c26 ?k26 ?a27 ?l27 ?c27 ?k27 ?a28 ?l28 ?c28 ?k28 ?z0 ?z1 ?z2 ?z3 ?z4 ?z5 ?z6 ?z7 ?z8 ?z9 ?z10 ?z11 ?z12 ?z13 ?z14 ?u0 ?u1 ?u2
    (case aC_CutError => k_is); (case hd_CutError => k_is); (case ty_CutError => k_is); (case aC_BadCut => k_is); (case hd_BadCut => k_is); (case ty_BadCut => k_is); (case aC_BadLong => k_is); (case hd_BadLong => k_is); (case ty_BadLong => k_is); (case aC_BadRow => k_is); (case hd_BadRow => k_is); (case ty_BadRow => k_is); (case aC_BadNumber => k_is); (case hd_BadNumber => k_is); (case ty_BadNumber => k_is); (case sbE => k_is); (case ex_BadCut => k_exc); (case kc_BadCut => k_is); (case sb_BadCut => k_is); (case ex_BadLong => k_exc); (case kc_BadLong => k_is); (case sb_BadLong => k_is); (case ex_BadRow => k_exc); (case kc_BadRow => k_is); (case sb_BadRow => k_is); (case a0 => k_is); (case l0 => k_is); (case c0 => k_is); (case k0 => k_is); (case a1 => k_is); (case l1 => k_is); (case c1 => k_is); (case k1 => k_is); (case a2 => k_is); (case l2 => k_is); (case c2 => k_is); (case k2 => k_is); (case a3 => k_is); (case l3 => k_is); (case c3 => k_is); (case k3 => k_is); (case a4 => k_is); (case l4 => k_is); (case c4 => k_is); (case k4 => k_is); (case m4 => k_is); (case a5 => k_is); (case l5 => k_is); (case c5 => k_is); (case k5 => k_is); (case a6 => k_is); (case l6 => k_is); (case c6 => k_is); (case k6 => k_is); (case a7 => k_is); (case l7 => k_is); (case c7 => k_is); (case k7 => k_is); (case a8 => k_is); (case l8 => k_is); (case c8 => k_is); (case k8 => k_is); (case a9 => k_is); (case l9 => k_is); (case c9 => k_is); (case k9 => k_is); (case a10 => k_is); (case l10 => k_is); (case c10 => k_is); (case k10 => k_is); (case a11 => k_is); (case l11 => k_is); (case c11 => k_is); (case k11 => k_is); (case a12 => k_is); (case l12 => k_is); (case c12 => k_is); (case k12 => k_is); (case a13 => k_is); (case l13 => k_is); (case c13 => k_is); (case k13 => k_is); (case a14 => k_is); (case l14 => k_is); (case c14 => k_is); (case k14 => k_is); (case a15 => k_is); (case l15 => k_is); (case c15 => k_is); (case k15 => k_is); (case a16 => k_is); (case l16 => k_is); (case c16 => k_is); (case k16 => k_is); (case a17 => k_is); (case l17 => k_is); (case c17 => k_is); (case k17 => k_is); (case a18 => k_is); (case l18 => k_is); (case c18 => k_is); (case k18 => k_is); (case a19 => k_is); (case l19 => k_is); (case c19 => k_is); (case k19 => k_is); (case a20 => k_is); (case l20 => k_is); (case c20 => k_is); (case k20 => k_is); (case a21 => k_is); (case l21 => k_is); (case c21 => k_is); (case k21 => k_is); (case a22 => k_is); (case l22 => k_is); (case c22 => k_is); (case k22 => k_is); (case a23 => k_is); (case l23 => k_is); (case c23 => k_is); (case k23 => k_is); (case a24 => k_is); (case l24 => k_is); (case c24 => k_is); (case k24 => k_is); (case a25 => k_is); (case l25 => k_is); (case c25 => k_is); (case k25 => k_is); (case a26 => k_is); (case l26 => k_is); (case c26 => k_is); (case k26 => k_is); (case a27 => k_is); (case l27 => k_is); (case c27 => k_is); (case k27 => k_is); (case a28 => k_is); (case l28 => k_is); (case c28 => k_is); (case k28 => k_is); (case z0 => k_is); (case z1 => k_is); (case z2 => k_is); (case z3 => k_is); (case z4 => k_is); (case z5 => k_is); (case z6 => k_is); (case z7 => k_is); (case z8 => k_is); (case z9 => k_is); (case z10 => k_is); (case z11 => k_is); (case z12 => k_is); (case z13 => k_is); (case z14 => k_is); (case u0 => k_is); (case u1 => k_is); (case u2 => k_is)
