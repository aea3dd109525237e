import PyProof.Rows.All
import Wide.All
import OpenK.AllK
import Wide.FinOn
import HandS.ForMost
import HandS.IsInst
import HandS.Exc
import HandS.TryOnly
import KE.KDictKeyed
import HandS.Lambda
import HandS.TupLe
import HandS.SetFor
import HandS.Wide
import KE.DataCmp
import KE.SortData
import PyProof.Rows.IntBool
import HandS.Deep
import KE.SortCalls
import HandS.Conv
import HandS.Style
import HandS.More
import HandS.EndBits
import HandS.Set
import HandS.Strs
import KE.KDictCopyH
import KE.KDictList
import KE.LtData
import KE.KSortAsk
import HandS.SortOrd
import HandS.WordsExc
import HandS.ExcIs
import HandS.ExcOwn
import HandS.ExcCtx
import HandS.Comp
import HandS.Hot
import HandS.EndTab
import PySem.Challenge.RW_boxclose_k14_whole_again
set_option Elab.async false
set_option linter.all false
set_option maxRecDepth 100000
set_option maxHeartbeats 2000000
/-! BX1: data trees, the store of mutable objects, states, and what stays. -/
namespace BX
open PySem L2

/-- what an object is that is never changed: an own class's by the class's name and the fields' names; a function by its number -/
inductive Tag where
  | ins (x : Str) (fs : List Str)
  | fn (i : Nat)
def TagR (K : PySem.W.Frag) (t : Tag) (a : Addr) (xs : List V) (o : HO) : Prop := match t with
  | .ins x fs => ∃ C dx, o = .ins C dx (fs.zip xs) ∧ fs.length = xs.length ∧ PySem.W.nsIn K mainGlobals x = some (some (.ref C))
  | .fn _ => False
/-- data: lists and tuples that are never changed any more are trees; what may be changed is told by its number -/
inductive D where
  | non | bl (b : Bool) | int (i : Int) | str (x : Str)
  | lst (xs : List D) | tup (xs : List D) | frz (xs : List D) | loc (k : Nat) | emp | obj (t : Tag) (xs : List D)
  | exn (a : Addr)

/-- a mutable object: a list, a dict -/
inductive MO where
  | lst (xs : List D)
  | dct (kvs : List (D × D))
  | ins (x : Str) (fs : List (Str × D))
  | tbl (q : Str)

mutual
inductive Rep (K : PySem.W.Frag) (S : Hp) (m : List Addr) : V → D → Prop
  | non : Rep K S m .non .non
  | bl (b : Bool) : Rep K S m (.bl b) (.bl b)
  | int (i : Int) : Rep K S m (.int i) (.int i)
  | str (x : Str) : Rep K S m (.str x) (.str x)
  | lst {a : Addr} {xs : List V} {ds : List D} : S a = some (.lst xs) → Reps K S m xs ds → Rep K S m (.ref a) (.lst ds)
  | tup {a : Addr} {xs : List V} {ds : List D} : S a = some (.tup xs) → Reps K S m xs ds → Rep K S m (.ref a) (.tup ds)
  | frz {a : Addr} {xs : List V} {ds : List D} : SqL K S a xs → Reps K S m xs ds → Rep K S m (.ref a) (.frz ds)
  | loc {a : Addr} {k : Nat} : m[k]? = some a → Rep K S m (.ref a) (.loc k)
  | emp {a : Addr} : S a = some (.dK []) → Rep K S m (.ref a) .emp
  | obj {a : Addr} {t : Tag} {xs : List V} {ds : List D} {o : HO} : S a = some o → TagR K t a xs o → Reps K S m xs ds → Rep K S m (.ref a) (.obj t ds)
  | exn {a : Addr} : Rep K S m (.ref a) (.exn a)
inductive Reps (K : PySem.W.Frag) (S : Hp) (m : List Addr) : List V → List D → Prop
  | nil : Reps K S m [] []
  | cons {v : V} {vs : List V} {d : D} {ds : List D} : Rep K S m v d → Reps K S m vs ds → Reps K S m (v :: vs) (d :: ds)
end

section
variable {K : PySem.W.Frag} {S S' : Hp} {m m' : List Addr}
theorem sqL_mono {a : Addr} {xs : List V} (e : ∀ a o, S a = some o → S' a = some o) (h : SqL K S a xs) : SqL K S' a xs := by
  rcases h with (h | ⟨o, h⟩) | h
  · exact .inl (.inl (e _ _ h))
  · exact .inl (.inr ⟨o, e _ _ h⟩)
  · exact .inr h
theorem sqT_mono {a : Addr} {xs : List V} (e : ∀ a o, S a = some o → S' a = some o) (h : SqT K S a xs) : SqT K S' a xs := by
  rcases h with (h | ⟨o, h⟩) | h
  · exact .inl (.inl (e _ _ h))
  · exact .inl (.inr ⟨o, e _ _ h⟩)
  · exact .inr h
mutual
theorem Rep.mono (e : ∀ a o, S a = some o → S' a = some o) (em : ∀ (k : Nat) (a : Addr), m[k]? = some a → m'[k]? = some a) : ∀ {x : V} {d : D}, Rep K S m x d → Rep K S' m' x d
  | _, _, .non => .non
  | _, _, .bl b => .bl b
  | _, _, .int i => .int i
  | _, _, .str x => .str x
  | _, _, .lst h r => .lst (e _ _ h) (Reps.mono e em r)
  | _, _, .tup h r => .tup (e _ _ h) (Reps.mono e em r)
  | _, _, .frz h r => .frz (sqL_mono e h) (Reps.mono e em r)
  | _, _, .loc h => .loc (em _ _ h)
  | _, _, .emp h => .emp (e _ _ h)
  | _, _, .obj h t r => .obj (e _ _ h) t (Reps.mono e em r)
  | _, _, .exn => .exn
theorem Reps.mono (e : ∀ a o, S a = some o → S' a = some o) (em : ∀ (k : Nat) (a : Addr), m[k]? = some a → m'[k]? = some a) : ∀ {xs : List V} {ds : List D}, Reps K S m xs ds → Reps K S' m' xs ds
  | _, _, .nil => .nil
  | _, _, .cons h r => .cons (Rep.mono e em h) (Reps.mono e em r)
end
theorem Reps.length : ∀ {xs : List V} {ds : List D}, Reps K S m xs ds → xs.length = ds.length
  | _, _, .nil => rfl
  | _, _, .cons _ r => by rw [List.length_cons, List.length_cons, Reps.length r]
theorem Reps.get : ∀ {xs : List V} {ds : List D} {i : Nat} {d : D}, Reps K S m xs ds → ds[i]? = some d → ∃ x, xs[i]? = some x ∧ Rep K S m x d
  | _, _, _, _, .nil, e => by simp at e
  | _, _, 0, _, .cons h _, e => by simp at e; subst e; exact ⟨_, rfl, h⟩
  | _, _, i + 1, _, .cons _ r, e => by
    obtain ⟨x, h1, h2⟩ := Reps.get (i := i) r (by simpa using e)
    exact ⟨x, by simpa using h1, h2⟩
theorem Reps.get' : ∀ {xs : List V} {ds : List D} {i : Nat} {x : V}, Reps K S m xs ds → xs[i]? = some x → ∃ d, ds[i]? = some d ∧ Rep K S m x d
  | _, _, _, _, .nil, e => by simp at e
  | _, _, 0, _, .cons h _, e => by simp at e; subst e; exact ⟨_, rfl, h⟩
  | _, _, i + 1, _, .cons _ r, e => by
    obtain ⟨x, h1, h2⟩ := Reps.get' (i := i) r (by simpa using e)
    exact ⟨x, by simpa using h1, h2⟩
theorem Reps.append : ∀ {xs ys : List V} {ds es : List D}, Reps K S m xs ds → Reps K S m ys es → Reps K S m (xs ++ ys) (ds ++ es)
  | _, _, _, _, .nil, s => s
  | _, _, _, _, .cons h r, s => .cons h (Reps.append r s)
theorem Reps.set {x : V} {d : D} (h : Rep K S m x d) : ∀ {xs : List V} {ds : List D} (i : Nat), Reps K S m xs ds → Reps K S m (xs.set i x) (ds.set i d)
  | _, _, _, .nil => .nil
  | _, _, 0, .cons _ r => .cons h r
  | _, _, i + 1, .cons q r => .cons q (Reps.set h i r)
theorem Reps.take : ∀ {xs : List V} {ds : List D} (n : Nat), Reps K S m xs ds → Reps K S m (xs.take n) (ds.take n)
  | _, _, 0, _ => .nil
  | _, _, _ + 1, .nil => .nil
  | _, _, n + 1, .cons h r => .cons h (Reps.take n r)
theorem Reps.drop : ∀ {xs : List V} {ds : List D} (n : Nat), Reps K S m xs ds → Reps K S m (xs.drop n) (ds.drop n)
  | _, _, 0, r => r
  | _, _, _ + 1, .nil => .nil
  | _, _, n + 1, .cons _ r => Reps.drop n r
theorem Reps.eraseIdx : ∀ {xs : List V} {ds : List D} (i : Nat), Reps K S m xs ds → Reps K S m (xs.eraseIdx i) (ds.eraseIdx i)
  | _, _, _, .nil => .nil
  | _, _, 0, .cons _ r => r
  | _, _, i + 1, .cons q r => .cons q (Reps.eraseIdx i r)
theorem Reps.snoc {xs : List V} {ds : List D} {x : V} {d : D} (r : Reps K S m xs ds) (h : Rep K S m x d) : Reps K S m (xs ++ [x]) (ds ++ [d]) := r.append (.cons h .nil)
theorem Reps.reverse : ∀ {xs : List V} {ds : List D}, Reps K S m xs ds → Reps K S m xs.reverse ds.reverse
  | _, _, .nil => .nil
  | _, _, .cons h r => by
    rw [List.reverse_cons, List.reverse_cons]
    exact Reps.snoc (Reps.reverse r) h
theorem Reps.dropLast {xs : List V} {ds : List D} (r : Reps K S m xs ds) : Reps K S m xs.dropLast ds.dropLast := by
  rw [List.dropLast_eq_take, List.dropLast_eq_take, r.length]
  exact r.take _
theorem Reps.ints : ∀ {ns : List Int}, Reps K S m (ns.map V.int) (ns.map D.int)
  | [] => .nil
  | n :: ns => .cons (.int n) Reps.ints
theorem Reps.ints_inv : ∀ {xs : List V} {ns : List Int}, Reps K S m xs (ns.map D.int) → xs = ns.map V.int
  | _, [], .nil => rfl
  | _, n :: ns, .cons h r => by
    cases h
    rw [Reps.ints_inv r]
    rfl
end

/-! ### no loc within -/
mutual
def nl : D → Bool
  | .lst xs => nls xs
  | .tup xs => nls xs
  | .frz xs => nls xs
  | .obj _ xs => nls xs
  | .loc _ => false
  | _ => true
def nls : List D → Bool
  | [] => true
  | d :: ds => nl d && nls ds
end
section
variable {K : PySem.W.Frag} {S : Hp} {m m' : List Addr}
mutual
theorem Rep.of_nl : ∀ {x : V} {d : D}, Rep K S m x d → nl d = true → Rep K S m' x d
  | _, _, .non, _ => .non
  | _, _, .bl b, _ => .bl b
  | _, _, .int i, _ => .int i
  | _, _, .str x, _ => .str x
  | _, _, .lst h r, e => .lst h (Reps.of_nl r (by simpa [nl] using e))
  | _, _, .tup h r, e => .tup h (Reps.of_nl r (by simpa [nl] using e))
  | _, _, .frz h r, e => .frz h (Reps.of_nl r (by simpa [nl] using e))
  | _, _, .loc _, e => absurd e (by simp [nl])
  | _, _, .emp h, _ => .emp h
  | _, _, .obj h t r, e => .obj h t (Reps.of_nl r (by simpa [nl] using e))
  | _, _, .exn, _ => .exn
theorem Reps.of_nl : ∀ {xs : List V} {ds : List D}, Reps K S m xs ds → nls ds = true → Reps K S m' xs ds
  | _, _, .nil, _ => .nil
  | _, _, .cons h r, e => by
    simp only [nls, Bool.and_eq_true] at e
    exact .cons (Rep.of_nl h e.1) (Reps.of_nl r e.2)
end
end

/-! ### the state: the addresses of the mutable objects, the heap of what is not changed, the heap -/
structure Ps where
  m : List Addr
  S : Hp
  H : Hp

abbrev Ps.z (_ : Ps) : Unit := ()
/-- a later state -/
structure Le (p q : Ps) : Prop where
  m : ∃ l, q.m = p.m ++ l
  sh : ∀ a o, p.S a = some o → q.S a = some o
  nw : ∀ a o, p.S a = none → p.H a = some o → q.S a = none
  fr : ∀ a o, p.H a = some o → a ∉ p.m → q.H a = some o
  dm : ∀ a o, p.H a = some o → ∃ o', q.H a = some o'
  nm : ∀ a, a ∈ q.m → a ∈ p.m ∨ p.H a = none

theorem Le.refl (p : Ps) : Le p p := ⟨⟨[], by simp⟩, fun _ _ h => h, fun _ _ h _ => h, fun _ _ h _ => h, fun _ o h => ⟨o, h⟩, fun _ h => .inl h⟩
theorem Le.trans {p q r : Ps} (a : Le p q) (b : Le q r) : Le p r := by
  obtain ⟨l1, e1⟩ := a.m
  obtain ⟨l2, e2⟩ := b.m
  refine ⟨⟨l1 ++ l2, by rw [e2, e1, List.append_assoc]⟩, fun x o h => b.sh x o (a.sh x o h), fun x o h1 h2 => ?_, fun x o h1 h2 => ?_, fun x o h => ?_, fun x h => ?_⟩
  · obtain ⟨o', h3⟩ := a.dm x o h2
    exact b.nw x o' (a.nw x o h1 h2) h3
  · refine b.fr x o (a.fr x o h1 h2) fun z => ?_
    rcases a.nm x z with z | z
    · exact h2 z
    · rw [h1] at z; cases z
  · obtain ⟨o', h1⟩ := a.dm x o h
    exact b.dm x o' h1
  · rcases b.nm x h with z | z
    · exact a.nm x z
    · cases q1 : p.H x with
      | none => exact .inr rfl
      | some o =>
        obtain ⟨o', h1⟩ := a.dm x o q1
        rw [z] at h1; cases h1
theorem Le.mget {p q : Ps} (h : Le p q) {k : Nat} {a : Addr} (e : p.m[k]? = some a) : q.m[k]? = some a := by
  obtain ⟨l, r⟩ := h.m
  rw [r, List.getElem?_append_left (List.getElem?_eq_some_iff.mp e).1]
  exact e
theorem Le.rep {K : PySem.W.Frag} {p q : Ps} (h : Le p q) {x : V} {d : D} (r : Rep K p.S p.m x d) : Rep K q.S q.m x d := r.mono h.sh fun _ _ => h.mget
theorem Le.reps {K : PySem.W.Frag} {p q : Ps} (h : Le p q) {x : List V} {d : List D} (r : Reps K p.S p.m x d) : Reps K q.S q.m x d := r.mono h.sh fun _ _ => h.mget
theorem Le.fresh {p q : Ps} (h : Le p q) {a : Addr} (e : q.H a = none) : p.H a = none := by
  cases q1 : p.H a with
  | none => rfl
  | some o =>
    obtain ⟨o', h1⟩ := h.dm a o q1
    rw [e] at h1; cases h1

/-! ### dicts -/
mutual
/-- a key of a dict -/
def nk : D → Option NestedKey
  | .non => some .none
  | .bl b => some (.num (if b = true then 1 else 0))
  | .int i => some (.num i)
  | .str x => some (.text x)
  | .tup xs => (nks xs).map .tup
  | _ => none
def nks : List D → Option (List NestedKey)
  | [] => some []
  | d :: ds => (nk d).bind fun k => (nks ds).map fun ks => k :: ks
end
structure Gx where
  P : Program
  w : World
  K : PySem.W.Frag
/-- a dict whose keys are tuples of anything that is a key, at a: keys, their addresses, values -/
def NDict (P : Program) (w : World) (a : Addr) (xs : List (NestedKey × Addr × V)) : HO := .ext fun h =>
  xs.length ≤ sizeLine ∧ (a == sysModules) = false ∧ ∃ ys : List (NestedKey × Addr × Value), Paired (fun (x : NestedKey × Addr × V) (y : NestedKey × Addr × Value) => x.1 = y.1 ∧ x.2.1 = y.2.1 ∧ RelV x.2.2 y.2.2) xs ys ∧
    ∃ o es ep, h.get? a = some o ∧ o.ExactDict ∧ o.data = .dict es ep ∧ es.toList = ys.map (entryOfKey (nestedKind P w)) ∧ (ys.map (·.1)).Nodup
def kD : Key → D
  | .inl i => .int i
  | .inr x => .str x
/-- at a stands a dict of these pairs -/
def DOk (G : Gx) (S H : Hp) (a : Addr) (kvs : List (D × D)) : Prop :=
  (∃ kk : List (Key × V), H a = some (.dK kk) ∧ Paired (fun (p : Key × V) (q : D × D) => kD p.1 = q.1 ∧ Rep G.K S [] p.2 q.2) kk kvs) ∨
  (∃ xs : List (NestedKey × Addr × V), H a = some (NDict G.P G.w a xs) ∧
    Paired (fun (x : NestedKey × Addr × V) (q : D × D) => nk q.1 = some x.1 ∧ (∃ l, q.1 = .tup l) ∧ x.1.depth ≤ 8 ∧ Rep G.K S [] (.ref x.2.1) q.1 ∧ Rep G.K S [] x.2.2 q.2) xs kvs ∧ xs ≠ [])
theorem DOk.mono {G : Gx} {S S' H H' : Hp} {a : Addr} {kvs : List (D × D)} (e : ∀ a o, S a = some o → S' a = some o) (eh : ∀ o, H a = some o → H' a = some o) (h : DOk G S H a kvs) : DOk G S' H' a kvs := by
  rcases h with ⟨kk, h1, h2⟩ | ⟨xs, h1, h2⟩
  · exact .inl ⟨kk, eh _ h1, Paired.mapP h2 fun p q z => ⟨z.1, z.2.mono e fun _ _ z => z⟩⟩
  · exact .inr ⟨xs, eh _ h1, Paired.mapP h2.1 fun p q z => ⟨z.1, z.2.1, z.2.2.1, z.2.2.2.1.mono e fun _ _ z => z, z.2.2.2.2.mono e fun _ _ z => z⟩, h2.2⟩

/-- the name of a lambda in the def x -/
def lamQ (x : Str) : Str := x ++ ".<locals>." ++ "<lambda>"
/-- what stands at the address of a mutable object; tbl x: the table of the code object of the def x -/
def MOR (G : Gx) (p : Ps) (a : Addr) : MO → Prop
  | .lst ds => ∃ xs, p.H a = some (.lst xs) ∧ Reps G.K p.S p.m xs ds
  | .dct kvs => DOk G p.S p.H a kvs
  | .tbl x => (∃ c, PySem.W.tabIn G.K x = some (c, a)) ∧ ∃ ps, p.H a = some (.tbl ps) ∧ TriplesOk ps.toList ∧ ∀ (pos : Pos) (cv : Value), codeAmong pos ps.toList = some cv → ∃ c, cv = .ref c ∧ p.S c = some (LamX.CodeO c (lamQ x))
  | .ins x fs => ∃ C dx vs, p.H a = some (.ins C dx vs) ∧ PySem.W.nsIn G.K mainGlobals x = some (some (.ref C)) ∧ Paired (fun (u : Str × V) (v : Str × D) => u.1 = v.1 ∧ Rep G.K p.S p.m u.2 v.2) vs fs
structure Ok (G : Gx) (p : Ps) (M : List MO) : Prop where
  sub : ∀ a o, p.S a = some o → p.H a = some o
  nd : p.m.Nodup
  apart : ∀ a, a ∈ p.m → p.S a = none
  len : p.m.length = M.length
  at_ : ∀ (k : Nat) a o, p.m[k]? = some a → M[k]? = some o → MOR G p a o

abbrev En := List (Option D)
structure EnvR (G : Gx) (p : Ps) (env : En) (σ : St) : Prop where
  len : env.length = σ.length
  at_ : ∀ (i : Nat) d, env[i]? = some (some d) → ∃ x, σ[i]? = some (some x) ∧ Rep G.K p.S p.m x d
section
variable {G : Gx} {p q : Ps} {M : List MO} {env : En} {σ : St}
theorem EnvR.mono (h : Le p q) (e : EnvR G p env σ) : EnvR G q env σ := ⟨e.len, fun i d z => let ⟨x, h1, h2⟩ := e.at_ i d z; ⟨x, h1, h.rep h2⟩⟩
theorem EnvR.set {i : Nat} {x : V} {d : D} (e : EnvR G p env σ) (r : Rep G.K p.S p.m x d) : EnvR G p (env.set i (some d)) (σ.set i (some x)) := by
  refine ⟨by rw [List.length_set, List.length_set]; exact e.len, fun j d' h => ?_⟩
  by_cases hj : i = j
  · subst hj
    have hl : i < env.length := by
      have := (List.getElem?_eq_some_iff.mp h).1
      simpa using this
    rw [List.getElem?_set_self hl] at h
    cases h
    exact ⟨x, List.getElem?_set_self (by rw [← e.len]; exact hl), r⟩
  · rw [List.getElem?_set_ne hj] at h
    obtain ⟨y, h1, h2⟩ := e.at_ j d' h
    exact ⟨y, by rw [List.getElem?_set_ne hj]; exact h1, h2⟩
/-- a slot forgotten -/
theorem EnvR.unset {i : Nat} (e : EnvR G p env σ) : EnvR G p (env.set i none) (σ.set i none) := by
  refine ⟨by rw [List.length_set, List.length_set]; exact e.len, fun j d' h => ?_⟩
  by_cases hj : i = j
  · subst hj
    by_cases hl : i < env.length
    · rw [List.getElem?_set_self hl] at h
      cases h
    · rw [List.getElem?_eq_none (by simpa using hl)] at h
      cases h
  · rw [List.getElem?_set_ne hj] at h
    obtain ⟨y, h1, h2⟩ := e.at_ j d' h
    exact ⟨y, by rw [List.getElem?_set_ne hj]; exact h1, h2⟩

/-- a new object that is never changed -/
def Ps.shd (p : Ps) (a : Addr) (o : HO) : Ps := ⟨p.m, upd p.S a o, upd p.H a o⟩
/-- a new mutable object -/
def Ps.new (p : Ps) (a : Addr) (o : HO) : Ps := ⟨p.m ++ [a], p.S, upd p.H a o⟩
/-- a change -/
def Ps.put (p : Ps) (a : Addr) (o : HO) : Ps := ⟨p.m, p.S, upd p.H a o⟩

theorem Le.shd {a : Addr} {o : HO} (hn : p.H a = none) (hs : p.S a = none) : Le p (p.shd a o) := by
  refine ⟨⟨[], by simp [Ps.shd]⟩, fun b u h => ?_, fun b u h1 h2 => ?_, fun b u h _ => ?_, fun b u h => ?_, fun b h => .inl h⟩
  · show upd p.S a o b = some u
    rw [upd_ne (ne_of_none h hs)]; exact h
  · show upd p.S a o b = none
    rw [upd_ne (ne_of_none h2 hn)]; exact h1
  · show upd p.H a o b = some u
    rw [upd_ne (ne_of_none h hn)]; exact h
  · refine ⟨u, ?_⟩
    show upd p.H a o b = some u
    rw [upd_ne (ne_of_none h hn)]; exact h
theorem Le.new {a : Addr} {o : HO} (hn : p.H a = none) : Le p (p.new a o) := by
  refine ⟨⟨[a], rfl⟩, fun b u h => h, fun b u h1 h2 => h1, fun b u h _ => ?_, fun b u h => ?_, fun b h => ?_⟩
  · show upd p.H a o b = some u
    rw [upd_ne (ne_of_none h hn)]; exact h
  · refine ⟨u, ?_⟩
    show upd p.H a o b = some u
    rw [upd_ne (ne_of_none h hn)]; exact h
  · have h' : b ∈ p.m ++ [a] := h
    rw [List.mem_append, List.mem_singleton] at h'
    rcases h' with h' | rfl
    · exact .inl h'
    · exact .inr hn
theorem Le.put {a : Addr} {o : HO} (ha : a ∈ p.m) : Le p (p.put a o) := by
  refine ⟨⟨[], by simp [Ps.put]⟩, fun b u h => h, fun b u h1 h2 => h1, fun b u h hb => ?_, fun b u h => ?_, fun b h => .inl h⟩
  · show upd p.H a o b = some u
    rw [upd_ne (fun (e : b = a) => hb (by rw [e]; exact ha))]; exact h
  · by_cases hb : b = a
    · exact ⟨o, by show upd p.H a o b = some o; rw [hb, upd_same]⟩
    · exact ⟨u, by show upd p.H a o b = some u; rw [upd_ne hb]; exact h⟩
theorem MOR.mono {a : Addr} {o : MO} (h : Le p q) (eh : ∀ o, p.H a = some o → q.H a = some o) (r : MOR G p a o) : MOR G q a o := by
  cases o with
  | lst ds =>
    obtain ⟨xs, h1, h2⟩ := r
    exact ⟨xs, eh _ h1, h.reps h2⟩
  | dct kvs => exact DOk.mono h.sh eh r
  | tbl x =>
    obtain ⟨h0, ps, h1, h2, h3⟩ := r
    exact ⟨h0, ps, eh _ h1, h2, fun pos cv z => let ⟨c, e1, e2⟩ := h3 pos cv z; ⟨c, e1, h.sh _ _ e2⟩⟩
  | ins x fs =>
    obtain ⟨C, dx, vs, h1, h2, h3⟩ := r
    exact ⟨C, dx, vs, eh _ h1, h2, Paired.mapP h3 fun u v z => ⟨z.1, h.rep z.2⟩⟩
theorem Ok.shd {a : Addr} {o : HO} (ok : Ok G p M) (hn : p.H a = none) : Ok G (p.shd a o) M := by
  have hs : p.S a = none := by
    cases q : p.S a with
    | none => rfl
    | some u => rw [ok.sub _ _ q] at hn; cases hn
  have hm : ∀ {k : Nat} {b : Addr}, p.m[k]? = some b → ∀ {o}, M[k]? = some o → b ≠ a := fun {k b} e {o} e2 z => by
    subst z
    have := ok.at_ k b o e e2
    cases o with
    | lst ds => obtain ⟨xs, h1, _⟩ := this; rw [hn] at h1; cases h1
    | dct kvs =>
      rcases this with ⟨_, h1, _⟩ | ⟨_, h1, _⟩ <;> (rw [hn] at h1; cases h1)
    | tbl x => obtain ⟨_, _, h1, _⟩ := this; rw [hn] at h1; cases h1
    | ins x fs => obtain ⟨_, _, _, h1, _⟩ := this; rw [hn] at h1; cases h1
  refine ⟨fun b u h => ?_, ok.nd, fun b hb => ?_, ok.len, fun k b u e1 e2 => ?_⟩
  · by_cases hb : b = a
    · subst hb
      have h' : upd p.S b o b = some u := h
      rw [upd_same] at h'
      show upd p.H b o b = some u
      rw [upd_same]; exact h'
    · have h' : upd p.S a o b = some u := h
      rw [upd_ne hb] at h'
      show upd p.H a o b = some u
      rw [upd_ne hb]; exact ok.sub _ _ h'
  · obtain ⟨k, hk, e⟩ := List.getElem_of_mem hb
    have e1 : p.m[k]? = some b := by rw [← e]; exact List.getElem?_eq_getElem hk
    have hk2 : k < M.length := by rw [← ok.len]; exact hk
    show upd p.S a o b = none
    rw [upd_ne (hm e1 (List.getElem?_eq_getElem hk2))]
    exact ok.apart b hb
  · refine MOR.mono (Le.shd hn hs) (fun v h => ?_) (ok.at_ k b u e1 e2)
    show upd p.H a o b = some v
    rw [upd_ne (ne_of_none h hn)]; exact h
theorem Ok.new {a : Addr} {o : HO} {u : MO} (ok : Ok G p M) (hn : p.H a = none) (r : MOR G (p.new a o) a u) : Ok G (p.new a o) (M ++ [u]) := by
  have hm : a ∉ p.m := fun h => by
    obtain ⟨k, hk, e⟩ := List.getElem_of_mem h
    have e1 : p.m[k]? = some a := by rw [← e]; exact List.getElem?_eq_getElem hk
    have hk2 : k < M.length := by rw [← ok.len]; exact hk
    have := ok.at_ k a _ e1 (List.getElem?_eq_getElem hk2)
    cases hM : M[k] with
    | lst ds => rw [hM] at this; obtain ⟨xs, h1, _⟩ := this; rw [hn] at h1; cases h1
    | dct kvs =>
      rw [hM] at this
      rcases this with ⟨_, h1, _⟩ | ⟨_, h1, _⟩ <;> (rw [hn] at h1; cases h1)
    | tbl x => rw [hM] at this; obtain ⟨_, _, h1, _⟩ := this; rw [hn] at h1; cases h1
    | ins x fs => rw [hM] at this; obtain ⟨_, _, _, h1, _⟩ := this; rw [hn] at h1; cases h1
  refine ⟨fun b v h => ?_, ?_, fun b hb => ?_, ?_, fun k b v e1 e2 => ?_⟩
  · show upd p.H a o b = some v
    rw [upd_ne (ne_of_none (ok.sub _ _ h) hn)]; exact ok.sub _ _ h
  · show (p.m ++ [a]).Nodup
    rw [List.nodup_append]
    refine ⟨ok.nd, by simp, fun x hx y hy => ?_⟩
    rw [List.mem_singleton] at hy
    subst hy
    exact fun e => hm (e ▸ hx)
  · have h' : b ∈ p.m ++ [a] := hb
    rw [List.mem_append, List.mem_singleton] at h'
    rcases h' with h' | rfl
    · exact ok.apart b h'
    · show p.S b = none
      cases q : p.S b with
      | none => rfl
      | some w => rw [ok.sub _ _ q] at hn; cases hn
  · show (p.m ++ [a]).length = (M ++ [u]).length
    rw [List.length_append, List.length_append, ok.len]
    rfl
  · have e1' : (p.m ++ [a])[k]? = some b := e1
    by_cases hk : k < p.m.length
    · rw [List.getElem?_append_left hk] at e1'
      rw [List.getElem?_append_left (by rw [← ok.len]; exact hk)] at e2
      refine MOR.mono (Le.new hn) (fun w h => ?_) (ok.at_ k b v e1' e2)
      show upd p.H a o b = some w
      rw [upd_ne (ne_of_none h hn)]; exact h
    · have hk2 : ¬ k < M.length := by rw [← ok.len]; exact hk
      rw [List.getElem?_append_right (Nat.le_of_not_lt hk)] at e1'
      rw [List.getElem?_append_right (Nat.le_of_not_lt hk2)] at e2
      rw [ok.len] at e1'
      generalize k - M.length = j at e1' e2
      cases j with
      | zero =>
        simp only [List.getElem?_cons_zero, Option.some.injEq] at e1' e2
        subst e1' e2
        exact r
      | succ j => simp at e2
theorem Ok.put {a : Addr} {o : HO} {u : MO} {k : Nat} (ok : Ok G p M) (hk : p.m[k]? = some a) (r : MOR G (p.put a o) a u) : Ok G (p.put a o) (M.set k u) := by
  have ha : a ∈ p.m := List.mem_of_getElem? hk
  refine ⟨fun b v h => ?_, ok.nd, ok.apart, by rw [List.length_set]; exact ok.len, fun j b v e1 e2 => ?_⟩
  · have hb : b ≠ a := fun z => by
      subst z
      have h' : p.S b = some v := h
      rw [ok.apart b ha] at h'; cases h'
    show upd p.H a o b = some v
    rw [upd_ne hb]; exact ok.sub _ _ h
  · have e1' : p.m[j]? = some b := e1
    by_cases hj : k = j
    · subst hj
      rw [hk] at e1'
      cases e1'
      have hl : k < M.length := by rw [← ok.len]; exact (List.getElem?_eq_some_iff.mp hk).1
      rw [List.getElem?_set_self hl] at e2
      cases e2
      exact r
    · rw [List.getElem?_set_ne hj] at e2
      have hb : b ≠ a := fun z => by
        subst z
        obtain ⟨h1, h2⟩ := List.getElem?_eq_some_iff.mp hk
        obtain ⟨h3, h4⟩ := List.getElem?_eq_some_iff.mp e1'
        exact hj ((List.getElem_inj ok.nd).mp (h2.trans h4.symm))
      refine MOR.mono (Le.put ha) (fun w h => ?_) (ok.at_ j b v e1' e2)
      show upd p.H a o b = some w
      rw [upd_ne hb]; exact h
theorem Ok.S_none {a : Addr} (ok : Ok G p M) (hn : p.H a = none) : p.S a = none := by
  cases q : p.S a with
  | none => rfl
  | some u => rw [ok.sub _ _ q] at hn; cases hn
/-- the list at a loc -/
theorem Ok.lst {k : Nat} {a : Addr} {ds : List D} (ok : Ok G p M) (h1 : p.m[k]? = some a) (h2 : M[k]? = some (.lst ds)) : ∃ xs, p.H a = some (.lst xs) ∧ Reps G.K p.S p.m xs ds := ok.at_ k a _ h1 h2
end
end BX

set_option Elab.async false
set_option linter.all false
set_option maxRecDepth 100000
set_option maxHeartbeats 2000000
/-! BX2: expressions: evaluators, and that they are right. -/
namespace BX
open PySem L2

abbrev gx (X : Cx) : Gx := ⟨X.prog, X.w, X.K⟩
abbrev FE := En → List MO → Option (D × List MO)
abbrev FT := En → List MO → Option (Bool × List MO)
abbrev FA := En → List MO → Option (List D × List MO)

/-- the reading te gives what f tells -/
def Ev (G : Gx) (te : TE) (f : FE) : Prop := ∀ (p : Ps) (env : En) (M : List MO) (σ : St) (d : D) (M' : List MO), Ok G p M → EnvR G p env σ → f env M = some (d, M') →
  ∀ Q : VK, (∀ (q : Ps) (x : V), Le p q → q.z = p.z → Ok G q M' → Rep G.K q.S q.m x d → Q x q.H) → te σ p.H Q
def EvT (G : Gx) (tt : TT) (f : FT) : Prop := ∀ (p : Ps) (env : En) (M : List MO) (σ : St) (b : Bool) (M' : List MO), Ok G p M → EnvR G p env σ → f env M = some (b, M') →
  ∀ Q : Bool → Hp → Prop, (∀ (q : Ps), Le p q → q.z = p.z → Ok G q M' → Q b q.H) → tt σ p.H Q
def EvA (G : Gx) (ta : TA) (f : FA) : Prop := ∀ (p : Ps) (env : En) (M : List MO) (σ : St) (ds : List D) (M' : List MO), Ok G p M → EnvR G p env σ → f env M = some (ds, M') →
  ∀ Q : List V → Hp → Prop, (∀ (q : Ps) (xs : List V), Le p q → q.z = p.z → Ok G q M' → Reps G.K q.S q.m xs ds → Q xs q.H) → ta σ p.H Q
structure SE (X : Cx) (e : Expr) (f : FE) : Prop where
  ex : ∃ te, PE X e te ∧ Ev (gx X) te f
structure ST (X : Cx) (e : Expr) (f : FT) : Prop where
  ex : ∃ tt, PT X e tt ∧ EvT (gx X) tt f
structure SA (X : Cx) (es : List Expr) (f : FA) : Prop where
  ex : ∃ ta, PA X es ta ∧ EvA (gx X) ta f

/-! ### by values -/
def RB (G : Gx) (r : R2) (g : List MO → D → D → Option D) : Prop := ∀ (p : Ps) (M : List MO) (x y : V) (d e z : D), Ok G p M → Rep G.K p.S p.m x d → Rep G.K p.S p.m y e → g M d e = some z →
  ∀ Q : VK, (∀ (q : Ps) (v : V), Le p q → q.z = p.z → Ok G q M → Rep G.K q.S q.m v z → Q v q.H) → r x y p.H Q
def RU (G : Gx) (r : V → Hp → VK → Prop) (g : List MO → D → Option D) : Prop := ∀ (p : Ps) (M : List MO) (x : V) (d z : D), Ok G p M → Rep G.K p.S p.m x d → g M d = some z →
  ∀ Q : VK, (∀ (q : Ps) (v : V), Le p q → q.z = p.z → Ok G q M → Rep G.K q.S q.m v z → Q v q.H) → r x p.H Q
def RC (G : Gx) (r : List V → Hp → VK → Prop) (g : List MO → List D → Option D) : Prop := ∀ (p : Ps) (M : List MO) (xs : List V) (ds : List D) (z : D), Ok G p M → Reps G.K p.S p.m xs ds → g M ds = some z →
  ∀ Q : VK, (∀ (q : Ps) (v : V), Le p q → q.z = p.z → Ok G q M → Rep G.K q.S q.m v z → Q v q.H) → r xs p.H Q
def RM (G : Gx) (r : V → List V → Hp → VK → Prop) (g : List MO → D → List D → Option D) : Prop := ∀ (p : Ps) (M : List MO) (x : V) (xs : List V) (d : D) (ds : List D) (z : D), Ok G p M → Rep G.K p.S p.m x d → Reps G.K p.S p.m xs ds → g M d ds = some z →
  ∀ Q : VK, (∀ (q : Ps) (v : V), Le p q → q.z = p.z → Ok G q M → Rep G.K q.S q.m v z → Q v q.H) → r x xs p.H Q

/-! ### evaluators -/
def eVar (i : Nat) (env : En) (M : List MO) : Option (D × List MO) := match env[i]? with
  | some (some d) => some (d, M)
  | _ => none
def eC (d : D) (_ : En) (M : List MO) : Option (D × List MO) := some (d, M)
def eBin (g : List MO → D → D → Option D) (a b : FE) (env : En) (M : List MO) : Option (D × List MO) := (a env M).bind fun r => (b env r.2).bind fun s => (g s.2 r.1 s.1).map fun z => (z, s.2)
def eUn (g : List MO → D → Option D) (a : FE) (env : En) (M : List MO) : Option (D × List MO) := (a env M).bind fun r => (g r.2 r.1).map fun z => (z, r.2)
def aNil (_ : En) (M : List MO) : Option (List D × List MO) := some ([], M)
def aCons (a : FE) (as : FA) (env : En) (M : List MO) : Option (List D × List MO) := (a env M).bind fun r => (as env r.2).map fun s => (r.1 :: s.1, s.2)
def lim (n : Nat) : Bool := decide (n ≤ 1000000)
def eTup (as : FA) (env : En) (M : List MO) : Option (D × List MO) := (as env M).bind fun r => if lim r.1.length = true then some (.tup r.1, r.2) else none
def eLst (as : FA) (env : En) (M : List MO) : Option (D × List MO) := (as env M).bind fun r => if lim r.1.length = true then some (.lst r.1, r.2) else none
def eIf (t : FT) (a b : FE) (env : En) (M : List MO) : Option (D × List MO) := (t env M).bind fun r => if r.1 = true then a env r.2 else b env r.2
def tE (a : FE) (env : En) (M : List MO) : Option (Bool × List MO) := (a env M).bind fun r => match r.1 with
  | .bl b => some (b, r.2)
  | _ => none
def eT (t : FT) (env : En) (M : List MO) : Option (D × List MO) := (t env M).map fun r => (.bl r.1, r.2)
def tAnd (a b : FT) (env : En) (M : List MO) : Option (Bool × List MO) := (a env M).bind fun r => if r.1 = true then b env r.2 else some (false, r.2)
def tOr (a b : FT) (env : En) (M : List MO) : Option (Bool × List MO) := (a env M).bind fun r => if r.1 = true then some (true, r.2) else b env r.2
def tNot (a : FT) (env : En) (M : List MO) : Option (Bool × List MO) := (a env M).map fun r => (!r.1, r.2)
def eChain (g g' : List MO → D → D → Option D) (a b c : FE) (env : En) (M : List MO) : Option (D × List MO) := (a env M).bind fun r => (b env r.2).bind fun s => (g s.2 r.1 s.1).bind fun z => match z with
  | .bl true => (c env s.2).bind fun u => (g' u.2 s.1 u.1).map fun v => (v, u.2)
  | .bl false => some (.bl false, s.2)
  | _ => none
def eCall (g : List MO → List D → Option D) (as : FA) (env : En) (M : List MO) : Option (D × List MO) := (as env M).bind fun r => (g r.2 r.1).map fun z => (z, r.2)
def eMth (g : List MO → D → List D → Option D) (o : FE) (as : FA) (env : En) (M : List MO) : Option (D × List MO) := (o env M).bind fun r => (as env r.2).bind fun s => (g s.2 r.1 s.1).map fun z => (z, s.2)

theorem lim_line {n : Nat} (h : lim n = true) : n ≤ sizeLine := Nat.le_trans (of_decide_eq_true h) (by decide)
theorem lim_lt {n : Nat} (h : lim n = true) : n < sizeLine := Nat.lt_of_le_of_lt (of_decide_eq_true h) (by decide)
theorem bind_some {α β : Type} {o : Option α} {k : α → Option β} {b : β} (h : o.bind k = some b) : ∃ a, o = some a ∧ k a = some b := by
  cases o with
  | none => cases h
  | some a => exact ⟨a, rfl, h⟩
theorem map_some {α β : Type} {o : Option α} {k : α → β} {b : β} (h : o.map k = some b) : ∃ a, o = some a ∧ k a = b := by
  cases o with
  | none => cases h
  | some a => exact ⟨a, rfl, Option.some.inj h⟩

/-! ### names, constants -/
section
variable {X : Cx} {e a b c : Expr} {es : List Expr} {pos : Pos} {fa fb fc : FE} {ft fu : FT} {fs : FA}
theorem se_var (i : Nat) {x : Str} (hN : X.N[i]? = some x := by rfl) (hv : Vis X.env.scope x := by first | exact Or.inl rfl | exact Or.inr (Or.inl rfl) | exact Or.inr (Or.inr rfl)) (hd : (x == ("__debug__" : Str)) = false := by decide)
    (hcd : (x == ("__classdict__" : Str)) = false := by decide) : SE X (.Name x pos) (eVar i) := by
  refine ⟨_, pe_var hN hv hd hcd, fun p env M σ d M' ok er h Q k => ?_⟩
  unfold eVar at h
  split at h
  · rename_i d' e
    cases h
    obtain ⟨y, h1, h2⟩ := er.at_ i _ e
    exact ⟨y, h1, k p y (.refl p) rfl ok h2⟩
  · cases h
theorem se_int {i : Int} {j : Nat} : SE X (.Constant (.int i) j pos) (eC (.int i)) := ⟨_, pe_int, fun p env M σ d M' ok er h Q k => by cases h; exact k p _ (.refl p) rfl ok (.int i)⟩
theorem se_bl {i : Bool} {j : Nat} : SE X (.Constant (.bool i) j pos) (eC (.bl i)) := ⟨_, pe_bl, fun p env M σ d M' ok er h Q k => by cases h; exact k p _ (.refl p) rfl ok (.bl i)⟩
theorem se_non {j : Nat} : SE X (.Constant .none j pos) (eC .non) := ⟨_, pe_non, fun p env M σ d M' ok er h Q k => by cases h; exact k p _ (.refl p) rfl ok .non⟩
theorem se_str {x : Str} {j : Nat} : SE X (.Constant (.str x) j pos) (eC (.str x)) := ⟨_, pe_str, fun p env M σ d M' ok er h Q k => by cases h; exact k p _ (.refl p) rfl ok (.str x)⟩

/-! ### operators -/
theorem ev_bin {r : R2} {g : List MO → D → D → Option D} {ta tb : TE} {G : Gx} (hr : RB G r g) (ha : Ev G ta fa) (hb : Ev G tb fb) : Ev G (tOp r ta tb) (eBin g fa fb) := by
  intro p env M σ d M' ok er h Q k
  obtain ⟨r1, h1, h⟩ := bind_some h
  obtain ⟨r2, h2, h⟩ := bind_some h
  obtain ⟨z, h3, h⟩ := map_some h
  cases h
  obtain ⟨d1, M1⟩ := r1
  obtain ⟨d2, M2⟩ := r2
  refine ha p env M σ d1 M1 ok er h1 _ fun q x l1 m1 ok1 x1 => ?_
  refine hb q env M1 σ d2 M2 ok1 (er.mono l1) h2 _ fun u y l2 m2 ok2 y2 => ?_
  exact hr u M2 x y d1 d2 d ok2 (l2.rep x1) y2 h3 Q fun w v l3 m3 ok3 v3 => k w v ((l1.trans l2).trans l3) (m3.trans (m2.trans m1)) ok3 v3
theorem se_bin {op : Operator} {r : R2} {g : List MO → D → D → Option D} (ho : OpR X (binaryOp op) r) (hr : RB (gx X) r g) (ha : SE X a fa) (hb : SE X b fb) : SE X (.BinOp a op b pos) (eBin g fa fb) := by
  obtain ⟨ta, pa, va⟩ := ha.ex
  obtain ⟨tb, pb, vb⟩ := hb.ex
  exact ⟨_, pe_op ho pa pb, ev_bin hr va vb⟩
theorem se_cmp {op : CmpOp} {r : R2} {g : List MO → D → D → Option D} (ho : OpR X (compareOp op) r) (hr : RB (gx X) r g) (ha : SE X a fa) (hb : SE X b fb) (hm : behindInMarks op b = false) : SE X (.Compare a [op] [b] pos) (eBin g fa fb) := by
  obtain ⟨ta, pa, va⟩ := ha.ex
  obtain ⟨tb, pb, vb⟩ := hb.ex
  exact ⟨_, pe_cmpR ho pa pb hm, ev_bin hr va vb⟩
theorem evt_test {te : TE} {G : Gx} (h : Ev G te fa) : EvT G (tTest te) (tE fa) := by
  intro p env M σ b M' ok er hf Q k
  obtain ⟨⟨d1, M1⟩, h1, h2⟩ := bind_some hf
  cases d1 with
  | bl c =>
    cases h2
    refine h p env M σ _ _ ok er h1 _ fun q x l m ok1 x1 => ?_
    cases x1
    exact ⟨_, rfl, k q l m ok1⟩
  | _ => cases h2
theorem evt_B {te : TE} {G : Gx} (h : Ev G te fa) : EvT G (tB te) (tE fa) := evt_test h
theorem st_cmp {op : CmpOp} {r : R2} {g : List MO → D → D → Option D} (ho : OpR X (compareOp op) r) (hr : RB (gx X) r g) (ha : SE X a fa) (hb : SE X b fb) (hm : behindInMarks op b = false) : ST X (.Compare a [op] [b] pos) (tE (eBin g fa fb)) := by
  obtain ⟨ta, pa, va⟩ := ha.ex
  obtain ⟨tb, pb, vb⟩ := hb.ex
  exact ⟨_, pt_cmpR ho pa pb hm, evt_test (ev_bin hr va vb)⟩
/-- a test by an expression that gives a bool -/
theorem st_val (h : SE X e fa) (he : ∀ whole, isTrue e X.env whole = (do let v ← whole; standAt e.pos; holding [v] (truthy v)) := by intro _; rfl) : ST X e (tE fa) := by
  obtain ⟨te, pe, ve⟩ := h.ex
  exact ⟨_, pt_val pe he, evt_B ve⟩
theorem se_un {op : UnaryOp} {r : V → Hp → VK → Prop} {g : List MO → D → Option D} (ho : UnR X (unaryOp op) r) (hr : RU (gx X) r g) (ha : SE X a fa) : SE X (.UnaryOp op a pos) (eUn g fa) := by
  obtain ⟨ta, pa, va⟩ := ha.ex
  refine ⟨_, pe_un ho pa, fun p env M σ d M' ok er h Q k => ?_⟩
  obtain ⟨⟨d1, M1⟩, h1, h⟩ := bind_some h
  obtain ⟨z, h3, h⟩ := map_some h
  cases h
  refine va p env M σ d1 M1 ok er h1 _ fun q x l1 m1 ok1 x1 => ?_
  exact hr q M1 x d1 d ok1 x1 h3 Q fun w v l3 m3 ok3 v3 => k w v (l1.trans l3) (m3.trans m1) ok3 v3

/-! ### chains -/
theorem ev_chain {r r' : R2} {g g' : List MO → D → D → Option D} {ta tb tc : TE} {G : Gx} (hr : RB G r g) (hr' : RB G r' g') (ha : Ev G ta fa) (hb : Ev G tb fb) (hc : Ev G tc fc) : Ev G (tChain r r' ta tb tc) (eChain g g' fa fb fc) := by
  intro p env M σ d M' ok er h Q k
  obtain ⟨⟨d1, M1⟩, h1, h⟩ := bind_some h
  obtain ⟨⟨d2, M2⟩, h2, h⟩ := bind_some h
  obtain ⟨z, h3, h⟩ := bind_some h
  refine ha p env M σ d1 M1 ok er h1 _ fun q x l1 m1 ok1 x1 => ?_
  refine hb q env M1 σ d2 M2 ok1 (er.mono l1) h2 _ fun u y l2 m2 ok2 y2 => ?_
  refine hr u M2 x y d1 d2 z ok2 (l2.rep x1) y2 h3 _ fun w v l3 m3 ok3 v3 => ?_
  have l13 := (l1.trans l2).trans l3
  have m13 := m3.trans (m2.trans m1)
  cases z with
  | bl c =>
    cases v3
    refine ⟨c, rfl, ?_⟩
    cases c with
    | true =>
      obtain ⟨⟨d4, M4⟩, h4, h⟩ := bind_some h
      obtain ⟨z5, h5, h⟩ := map_some h
      cases h
      show tc σ w.H _
      refine hc w env M2 σ d4 M4 ok3 (er.mono l13) h4 _ fun w4 x4 l4 m4 ok4 v4 => ?_
      exact hr' w4 M4 y x4 d2 d4 d ok4 ((l3.trans l4).rep y2) v4 h5 Q fun w5 v5 l5 m5 ok5 r5 => k w5 v5 ((l13.trans l4).trans l5) (m5.trans (m4.trans m13)) ok5 r5
    | false =>
      cases h
      show Q (.bl false) w.H
      exact k w _ l13 m13 ok3 (.bl false)
  | _ => cases h
theorem se_chain {op op' : CmpOp} {r r' : R2} {g g' : List MO → D → D → Option D} (ho : OpR X (compareOp op) r) (hr : RB (gx X) r g) (ho' : OpR X (compareOp op') r') (hr' : RB (gx X) r' g') (ha : SE X a fa) (hb : SE X b fb) (hc : SE X c fc)
    (hm : lastMarks [op, op'] [b, c] = false := by with_unfolding_all rfl) : SE X (.Compare a [op, op'] [b, c] pos) (eChain g g' fa fb fc) := by
  obtain ⟨ta, pa, va⟩ := ha.ex
  obtain ⟨tb, pb, vb⟩ := hb.ex
  obtain ⟨tc, pc, vc⟩ := hc.ex
  exact ⟨_, pe_chain ho ho' pa pb pc hm, ev_chain hr hr' va vb vc⟩
theorem st_chain {op op' : CmpOp} {r r' : R2} {g g' : List MO → D → D → Option D} (ho : OpR X (compareOp op) r) (hr : RB (gx X) r g) (ho' : OpR X (compareOp op') r') (hr' : RB (gx X) r' g') (ha : SE X a fa) (hb : SE X b fb) (hc : SE X c fc)
    (hm : lastMarks [op, op'] [b, c] = false := by with_unfolding_all rfl) : ST X (.Compare a [op, op'] [b, c] pos) (tE (eChain g g' fa fb fc)) := by
  obtain ⟨ta, pa, va⟩ := ha.ex
  obtain ⟨tb, pb, vb⟩ := hb.ex
  obtain ⟨tc, pc, vc⟩ := hc.ex
  exact ⟨_, pt_chain ho ho' pa pb pc hm, evt_test (ev_chain hr hr' va vb vc)⟩

/-! ### and, or, not, if -/
structure SW (X : Cx) (e : Expr) (f : FT) : Prop where
  ex : ∃ tt, PW X e tt ∧ EvT (gx X) tt f
theorem SW.st (h : SW X e ft) : ST X e ft := by
  obtain ⟨t, p, v⟩ := h.ex
  exact ⟨t, p.pt, v⟩
theorem sw_and1 (h : ST X a ft) : SW X (.BoolOp .And [a] pos) ft := by
  obtain ⟨t, p, v⟩ := h.ex
  exact ⟨t, pw_and1 p, v⟩
theorem sw_or1 (h : ST X a ft) : SW X (.BoolOp .Or [a] pos) ft := by
  obtain ⟨t, p, v⟩ := h.ex
  exact ⟨t, pw_or1 p, v⟩
theorem evt_and {t u : TT} {G : Gx} (h1 : EvT G t ft) (h2 : EvT G u fu) : EvT G (L2.tAnd t u) (tAnd ft fu) := by
  intro p env M σ b M' ok er h Q k
  obtain ⟨⟨b1, M1⟩, e1, h⟩ := bind_some h
  refine h1 p env M σ b1 M1 ok er e1 _ fun q l1 m1 ok1 => ?_
  cases b1 with
  | true => exact h2 q env M1 σ b M' ok1 (er.mono l1) h Q fun w l2 m2 ok2 => k w (l1.trans l2) (m2.trans m1) ok2
  | false =>
    cases h
    exact k q l1 m1 ok1
theorem evt_or {t u : TT} {G : Gx} (h1 : EvT G t ft) (h2 : EvT G u fu) : EvT G (L2.tOr t u) (tOr ft fu) := by
  intro p env M σ b M' ok er h Q k
  obtain ⟨⟨b1, M1⟩, e1, h⟩ := bind_some h
  refine h1 p env M σ b1 M1 ok er e1 _ fun q l1 m1 ok1 => ?_
  cases b1 with
  | false => exact h2 q env M1 σ b M' ok1 (er.mono l1) h Q fun w l2 m2 ok2 => k w (l1.trans l2) (m2.trans m1) ok2
  | true =>
    cases h
    exact k q l1 m1 ok1
theorem sw_and {rest : List Expr} (h : ST X a ft) (h2 : SW X (.BoolOp .And (b :: rest) pos) fu) : SW X (.BoolOp .And (a :: b :: rest) pos) (tAnd ft fu) := by
  obtain ⟨t, p, v⟩ := h.ex
  obtain ⟨t2, p2, v2⟩ := h2.ex
  exact ⟨_, pw_and p p2, evt_and v v2⟩
theorem sw_or {rest : List Expr} (h : ST X a ft) (h2 : SW X (.BoolOp .Or (b :: rest) pos) fu) : SW X (.BoolOp .Or (a :: b :: rest) pos) (tOr ft fu) := by
  obtain ⟨t, p, v⟩ := h.ex
  obtain ⟨t2, p2, v2⟩ := h2.ex
  exact ⟨_, pw_or p p2, evt_or v v2⟩
theorem st_not (h : ST X a ft) : ST X (.UnaryOp .Not a pos) (tNot ft) := by
  obtain ⟨t, p, v⟩ := h.ex
  refine ⟨_, pt_not p, fun p env M σ b M' ok er h Q k => ?_⟩
  obtain ⟨⟨b1, M1⟩, e1, h⟩ := map_some h
  cases h
  exact v p env M σ b1 _ ok er e1 _ fun q l1 m1 ok1 => k q l1 m1 ok1
/-- the same as values, of bools -/
theorem se_one {op : BoolOp} (h : SE X a fa) : SE X (.BoolOp op [a] pos) fa := by
  obtain ⟨t, p, v⟩ := h.ex
  exact ⟨t, pe_one p, v⟩
theorem se_and {rest : List Expr} (h : SE X a fa) (h2 : SE X (.BoolOp .And (b :: rest) pos) (eT fu)) : SE X (.BoolOp .And (a :: b :: rest) pos) (eT (tAnd (tE fa) fu)) := by
  obtain ⟨t, p, v⟩ := h.ex
  obtain ⟨t2, p2, v2⟩ := h2.ex
  refine ⟨_, pe_and p p2, fun p env M σ d M' ok er h Q k => ?_⟩
  obtain ⟨⟨b1, M1⟩, e1, h⟩ := map_some h
  cases h
  obtain ⟨⟨b2, M2⟩, e2, e1⟩ := bind_some e1
  obtain ⟨⟨d3, M3⟩, e3, e2⟩ := bind_some e2
  cases d3 with
  | bl b3 =>
    cases e2
    refine v p env M σ _ _ ok er e3 _ fun q x l1 m1 ok1 x1 => ?_
    cases x1
    refine ⟨b2, rfl, ?_⟩
    cases b2 with
    | true => exact v2 q env M3 σ (.bl b1) _ ok1 (er.mono l1) (show (fu env M3).map _ = _ by have e1 : fu env M3 = _ := e1; rw [e1]; rfl) Q fun w x l2 m2 ok2 x2 => k w x (l1.trans l2) (m2.trans m1) ok2 x2
    | false =>
      cases e1
      exact k q _ l1 m1 ok1 (.bl false)
  | _ => cases e2
theorem se_or {rest : List Expr} (h : SE X a fa) (h2 : SE X (.BoolOp .Or (b :: rest) pos) (eT fu)) : SE X (.BoolOp .Or (a :: b :: rest) pos) (eT (tOr (tE fa) fu)) := by
  obtain ⟨t, p, v⟩ := h.ex
  obtain ⟨t2, p2, v2⟩ := h2.ex
  refine ⟨_, pe_or p p2, fun p env M σ d M' ok er h Q k => ?_⟩
  obtain ⟨⟨b1, M1⟩, e1, h⟩ := map_some h
  cases h
  obtain ⟨⟨b2, M2⟩, e2, e1⟩ := bind_some e1
  obtain ⟨⟨d3, M3⟩, e3, e2⟩ := bind_some e2
  cases d3 with
  | bl b3 =>
    cases e2
    refine v p env M σ _ _ ok er e3 _ fun q x l1 m1 ok1 x1 => ?_
    cases x1
    refine ⟨b2, rfl, ?_⟩
    cases b2 with
    | false => exact v2 q env M3 σ (.bl b1) _ ok1 (er.mono l1) (show (fu env M3).map _ = _ by have e1 : fu env M3 = _ := e1; rw [e1]; rfl) Q fun w x l2 m2 ok2 x2 => k w x (l1.trans l2) (m2.trans m1) ok2 x2
    | true =>
      cases e1
      exact k q _ l1 m1 ok1 (.bl true)
  | _ => cases e2
theorem se_last {op : BoolOp} (h : SE X a fa) : SE X (.BoolOp op [a] pos) (eT (tE fa)) := by
  obtain ⟨t, p, v⟩ := h.ex
  refine ⟨t, pe_one p, fun p env M σ d M' ok er h Q k => ?_⟩
  obtain ⟨⟨b1, M1⟩, e1, h⟩ := map_some h
  cases h
  obtain ⟨⟨d3, M3⟩, e3, e2⟩ := bind_some e1
  cases d3 with
  | bl b3 =>
    cases e2
    exact v p env M σ _ _ ok er e3 Q k
  | _ => cases e2
theorem se_not (h : SE X a fa) : SE X (.UnaryOp .Not a pos) (eT (tNot (tE fa))) := by
  obtain ⟨t, p, v⟩ := h.ex
  refine ⟨_, pe_not p, fun p env M σ d M' ok er h Q k => ?_⟩
  obtain ⟨⟨b1, M1⟩, e1, h⟩ := map_some h
  cases h
  obtain ⟨⟨b2, M2⟩, e2, e1⟩ := map_some e1
  cases e1
  obtain ⟨⟨d3, M3⟩, e3, e2⟩ := bind_some e2
  cases d3 with
  | bl b3 =>
    cases e2
    refine v p env M σ _ _ ok er e3 _ fun q x l1 m1 ok1 x1 => ?_
    cases x1
    exact ⟨b2, rfl, k q _ l1 m1 ok1 (.bl _)⟩
  | _ => cases e2
theorem se_if (hc : ST X c ft) (ha : SE X a fa) (hb : SE X b fb) : SE X (.IfExp c a b pos) (eIf ft fa fb) := by
  obtain ⟨t, pt, vt⟩ := hc.ex
  obtain ⟨ta, pa, va⟩ := ha.ex
  obtain ⟨tb, pb, vb⟩ := hb.ex
  refine ⟨_, pe_ifExp pt pa pb, fun p env M σ d M' ok er h Q k => ?_⟩
  obtain ⟨⟨b1, M1⟩, e1, h⟩ := bind_some h
  refine vt p env M σ b1 M1 ok er e1 _ fun q l1 m1 ok1 => ?_
  cases b1 with
  | true => exact va q env M1 σ d M' ok1 (er.mono l1) h Q fun w x l2 m2 ok2 x2 => k w x (l1.trans l2) (m2.trans m1) ok2 x2
  | false => exact vb q env M1 σ d M' ok1 (er.mono l1) h Q fun w x l2 m2 ok2 x2 => k w x (l1.trans l2) (m2.trans m1) ok2 x2

/-! ### arguments, displays, calls of built-ins, methods -/
theorem sa_nil : SA X [] aNil := ⟨_, pa_nil, fun p env M σ ds M' ok er h Q k => by cases h; exact k p [] (.refl p) rfl ok .nil⟩
theorem sa_cons (ha : SE X e fa) (hr : SA X es fs) (hs : starEach (e :: es) X.env = (false, eval e X.env) :: starEach es X.env := by rfl) : SA X (e :: es) (aCons fa fs) := by
  obtain ⟨t, pt, vt⟩ := ha.ex
  obtain ⟨u, pu, vu⟩ := hr.ex
  refine ⟨_, pa_cons pt pu hs, fun p env M σ ds M' ok er h Q k => ?_⟩
  obtain ⟨⟨d1, M1⟩, e1, h⟩ := bind_some h
  obtain ⟨⟨d2, M2⟩, e2, h⟩ := map_some h
  cases h
  refine vt p env M σ d1 M1 ok er e1 _ fun q x l1 m1 ok1 x1 => ?_
  exact vu q env M1 σ d2 _ ok1 (er.mono l1) e2 _ fun w xs l2 m2 ok2 x2 => k w (x :: xs) (l1.trans l2) (m2.trans m1) ok2 (.cons (l2.rep x1) x2)
theorem se_tup {x1 : Nat} (h : SA X es fs) : SE X (.Tuple es x1 pos) (eTup fs) := by
  obtain ⟨t, pt, vt⟩ := h.ex
  refine ⟨_, pe_tup pt, fun p env M σ d M' ok er h Q k => ?_⟩
  obtain ⟨⟨ds, M1⟩, e1, h⟩ := bind_some h
  split at h
  · rename_i hl
    cases h
    refine vt p env M σ ds _ ok er e1 _ fun q xs l1 m1 ok1 x1 => ⟨by rw [x1.length]; exact lim_line hl, fun a ha => ?_⟩
    have l2 : Le q (q.shd a (.tup xs)) := Le.shd ha (ok1.S_none ha)
    exact k (q.shd a (.tup xs)) (.ref a) (l1.trans l2) m1 (ok1.shd ha) (.tup upd_same (l2.reps x1))
  · cases h
theorem se_lst (h : SA X es fs) : SE X (.List es pos) (eLst fs) := by
  obtain ⟨t, pt, vt⟩ := h.ex
  refine ⟨_, pe_lst pt, fun p env M σ d M' ok er h Q k => ?_⟩
  obtain ⟨⟨ds, M1⟩, e1, h⟩ := bind_some h
  split at h
  · rename_i hl
    cases h
    refine vt p env M σ ds _ ok er e1 _ fun q xs l1 m1 ok1 x1 => ⟨by rw [x1.length]; exact lim_line hl, fun a ha => ?_⟩
    have l2 : Le q (q.shd a (.lst xs)) := Le.shd ha (ok1.S_none ha)
    exact k (q.shd a (.lst xs)) (.ref a) (l1.trans l2) m1 (ok1.shd ha) (.lst upd_same (l2.reps x1))
  · cases h
theorem ev_cb {r : List V → Hp → VK → Prop} {g : List MO → List D → Option D} {ta : TA} {G : Gx} (hr : RC G r g) (h : EvA G ta fs) : Ev G (tCB r ta) (eCall g fs) := by
  intro p env M σ d M' ok er h1 Q k
  obtain ⟨⟨ds, M1⟩, e1, h1⟩ := bind_some h1
  obtain ⟨z, e2, h1⟩ := map_some h1
  cases h1
  refine h p env M σ ds _ ok er e1 _ fun q xs l1 m1 ok1 x1 => ?_
  exact hr q _ xs ds d ok1 x1 e2 Q fun w v l2 m2 ok2 v2 => k w v (l1.trans l2) (m2.trans m1) ok2 v2
theorem se_callB {x : Str} {id : String} {r : List V → Hp → VK → Prop} {g : List MO → List D → Option D} {q : Pos} (hc : CallR X (.builtin id) r) (hr : RC (gx X) r g) (hg : Gl X x) (hm : X.mg x = none) (hv : bootBuiltins x = some (.builtin id)) (ha : SA X (e :: es) fs)
    (hn : x ≠ "__name__" := by decide) (hdb : (x == ("__debug__" : Str)) = false := by decide) (he : starEach (e :: es) X.env = (false, eval e X.env) :: starEach es X.env := by rfl) (hpl : (backTo pos (starEach es X.env)).any (·.1) = false := by rfl) :
    SE X (.Call (.Name x q) (e :: es) [] pos) (eCall g fs) := by
  obtain ⟨t, pt, vt⟩ := ha.ex
  exact ⟨_, pe_callB hc hg hm hv pt hn hdb he hpl, ev_cb hr vt⟩
theorem se_callTy {x : Str} {T : String} {r : List V → Hp → VK → Prop} {g : List MO → List D → Option D} {q : Pos} (hc : CallR X (.type T) r) (hr : RC (gx X) r g) (hg : Gl X x) (hm : X.mg x = none) (hv : bootBuiltins x = some (.type T)) (ha : SA X (e :: es) fs)
    (hn : x ≠ "__name__" := by decide) (hdb : (x == ("__debug__" : Str)) = false := by decide) (he : starEach (e :: es) X.env = (false, eval e X.env) :: starEach es X.env := by rfl) (hpl : (backTo pos (starEach es X.env)).any (·.1) = false := by rfl) :
    SE X (.Call (.Name x q) (e :: es) [] pos) (eCall g fs) := by
  obtain ⟨t, pt, vt⟩ := ha.ex
  exact ⟨_, pe_callTy hc hg hm hv pt hn hdb he hpl, ev_cb hr vt⟩
end
end BX

set_option Elab.async false
set_option linter.all false
set_option maxRecDepth 100000
set_option maxHeartbeats 2000000
/-! BX3: operations on data. -/
namespace BX
open PySem L2
open PyProof.Rows (b2i)

/-! ### what is read as a list, a tuple -/
def asL (M : List MO) : D → Option (List D)
  | .lst xs => some xs
  | .loc k => match M[k]? with
    | some (.lst xs) => some xs
    | _ => none
  | _ => none
section
variable {G : Gx} {p : Ps} {M : List MO} {x : V} {d : D} {ds : List D}
theorem asL_ok (ok : Ok G p M) (r : Rep G.K p.S p.m x d) (h : asL M d = some ds) : ∃ a xs, x = .ref a ∧ p.H a = some (.lst xs) ∧ Reps G.K p.S p.m xs ds := by
  cases r with
  | lst h1 h2 => cases h; exact ⟨_, _, rfl, ok.sub _ _ h1, h2⟩
  | @loc a k h1 =>
    unfold asL at h
    simp only at h
    split at h
    · rename_i xs e
      cases h
      obtain ⟨ys, h2, h3⟩ := ok.lst h1 e
      exact ⟨a, ys, rfl, h2, h3⟩
    · cases h
  | _ => cases h
/-- a list, a tuple, the script: what is read item by item -/
def asS (M : List MO) : D → Option (List D)
  | .tup xs => some xs
  | .frz xs => some xs
  | d => asL M d
theorem asS_ok (ok : Ok G p M) (r : Rep G.K p.S p.m x d) (h : asS M d = some ds) : ∃ a xs, x = .ref a ∧ (SqL G.K p.H a xs ∨ SqT G.K p.H a xs) ∧ Reps G.K p.S p.m xs ds := by
  cases r with
  | tup h1 h2 => cases h; exact ⟨_, _, rfl, .inr (SqT.of (ok.sub _ _ h1)), h2⟩
  | frz h1 h2 => cases h; exact ⟨_, _, rfl, .inl (sqL_mono ok.sub h1), h2⟩
  | lst h1 h2 => cases h; exact ⟨_, _, rfl, .inl (SqL.of (ok.sub _ _ h1)), h2⟩
  | loc h1 =>
    obtain ⟨a, xs, e, h2, h3⟩ := asL_ok ok (.loc h1) h
    exact ⟨a, xs, e, .inl (SqL.of h2), h3⟩
  | _ => cases h
/-- a list or the script -/
def asR (M : List MO) : D → Option (List D)
  | .frz xs => some xs
  | d => asL M d
theorem asR_ok (ok : Ok G p M) (r : Rep G.K p.S p.m x d) (h : asR M d = some ds) : ∃ a xs, x = .ref a ∧ SqL G.K p.H a xs ∧ Reps G.K p.S p.m xs ds := by
  cases r with
  | frz h1 h2 => cases h; exact ⟨_, _, rfl, sqL_mono ok.sub h1, h2⟩
  | lst h1 h2 => cases h; exact ⟨_, _, rfl, SqL.of (ok.sub _ _ h1), h2⟩
  | loc h1 =>
    obtain ⟨a, xs, e, h2, h3⟩ := asL_ok ok (.loc h1) h
    exact ⟨a, xs, e, SqL.of h2, h3⟩
  | _ => cases h
end

/-! ### resolved: no loc within -/
mutual
def rsv (f : Nat → Option D) : D → Option D
  | .lst xs => (rsvs f xs).map .lst
  | .tup xs => (rsvs f xs).map .tup
  | .frz xs => (rsvs f xs).map .frz
  | .loc k => f k
  | .non => some .non
  | .bl b => some (.bl b)
  | .int i => some (.int i)
  | .str x => some (.str x)
  | .emp => some .emp
  | .exn a => some (.exn a)
  | .obj t xs => (rsvs f xs).map (.obj t)
def rsvs (f : Nat → Option D) : List D → Option (List D)
  | [] => some []
  | d :: ds => (rsv f d).bind fun e => (rsvs f ds).map fun es => e :: es
end
def lkp : Nat → List MO → Nat → Option D
  | 0, _, _ => none
  | n + 1, M, k => match M[k]? with
    | some (.lst ds) => (rsvs (lkp n M) ds).map .lst
    | _ => none
def rsM (M : List MO) (d : D) : Option D := rsv (lkp 4 M) d
section
variable {G : Gx} {p : Ps} {M : List MO}
mutual
theorem rsv_ok {S' : Hp} {f : Nat → Option D} {m' : List Addr} (sub : ∀ a o, p.S a = some o → S' a = some o) (hf : ∀ k a d, p.m[k]? = some a → f k = some d → Rep G.K S' m' (.ref a) d) :
    ∀ {x : V} {d e : D}, Rep G.K p.S p.m x d → rsv f d = some e → Rep G.K S' m' x e
  | _, _, _, .non, h => by cases h; exact .non
  | _, _, _, .bl b, h => by cases h; exact .bl b
  | _, _, _, .int i, h => by cases h; exact .int i
  | _, _, _, .str x, h => by cases h; exact .str x
  | _, _, _, .emp h1, h => by cases h; exact .emp (sub _ _ h1)
  | _, _, _, .exn, h => by cases h; exact .exn
  | _, _, _, .obj h1 ht h2, h => by
    rw [rsv] at h
    obtain ⟨es, e1, e2⟩ := map_some h
    subst e2
    exact .obj (sub _ _ h1) ht (rsvs_ok sub hf h2 e1)
  | _, _, _, .lst h1 h2, h => by
    rw [rsv] at h
    obtain ⟨es, e1, e2⟩ := map_some h
    subst e2
    exact .lst (sub _ _ h1) (rsvs_ok sub hf h2 e1)
  | _, _, _, .tup h1 h2, h => by
    rw [rsv] at h
    obtain ⟨es, e1, e2⟩ := map_some h
    subst e2
    exact .tup (sub _ _ h1) (rsvs_ok sub hf h2 e1)
  | _, _, _, .frz h1 h2, h => by
    rw [rsv] at h
    obtain ⟨es, e1, e2⟩ := map_some h
    subst e2
    exact .frz (sqL_mono sub h1) (rsvs_ok sub hf h2 e1)
  | _, _, _, .loc h1, h => by
    rw [rsv] at h
    exact hf _ _ _ h1 h
theorem rsvs_ok {S' : Hp} {f : Nat → Option D} {m' : List Addr} (sub : ∀ a o, p.S a = some o → S' a = some o) (hf : ∀ k a d, p.m[k]? = some a → f k = some d → Rep G.K S' m' (.ref a) d) :
    ∀ {xs : List V} {ds es : List D}, Reps G.K p.S p.m xs ds → rsvs f ds = some es → Reps G.K S' m' xs es
  | _, _, _, .nil, h => by cases h; exact .nil
  | _, _, _, .cons h1 h2, h => by
    rw [rsvs] at h
    obtain ⟨e, e1, h⟩ := bind_some h
    obtain ⟨es, e2, h⟩ := map_some h
    subst h
    exact .cons (rsv_ok sub hf h1 e1) (rsvs_ok sub hf h2 e2)
end
theorem lkp_ok {m' : List Addr} (ok : Ok G p M) : ∀ (n k : Nat) (a : Addr) (d : D), p.m[k]? = some a → lkp n M k = some d → Rep G.K p.H m' (.ref a) d
  | 0, _, _, _, _, h => by cases h
  | n + 1, k, a, d, h1, h => by
    rw [lkp] at h
    split at h
    · rename_i ds e
      obtain ⟨es, e1, e2⟩ := map_some h
      subst e2
      obtain ⟨xs, h2, h3⟩ := ok.lst h1 e
      exact .lst h2 (rsvs_ok ok.sub (lkp_ok ok n) h3 e1)
    · cases h
theorem rsM_ok {m' : List Addr} (ok : Ok G p M) {x : V} {d e : D} (r : Rep G.K p.S p.m x d) (h : rsM M d = some e) : Rep G.K p.H m' x e := rsv_ok ok.sub (lkp_ok ok 4) r h
mutual
theorem rsv_nl (f : Nat → Option D) : ∀ (d : D), nl d = true → rsv f d = some d
  | .lst xs, h => by
    rw [rsv, rsvs_nl f xs (by simpa [nl] using h)]
    rfl
  | .tup xs, h => by
    rw [rsv, rsvs_nl f xs (by simpa [nl] using h)]
    rfl
  | .frz xs, h => by
    rw [rsv, rsvs_nl f xs (by simpa [nl] using h)]
    rfl
  | .loc k, h => absurd h (by simp [nl])
  | .non, _ => rfl
  | .bl _, _ => rfl
  | .int _, _ => rfl
  | .str _, _ => rfl
  | .emp, _ => rfl
  | .exn _, _ => rfl
  | .obj t xs, h => by
    rw [rsv, rsvs_nl f xs (by simpa [nl] using h)]
    rfl
theorem rsvs_nl (f : Nat → Option D) : ∀ (ds : List D), nls ds = true → rsvs f ds = some ds
  | [], _ => rfl
  | d :: ds, h => by
    simp only [nls, Bool.and_eq_true] at h
    rw [rsvs, rsv_nl f d h.1, rsvs_nl f ds h.2]
    rfl
end
theorem rsM_nl {d : D} (h : nl d = true) : rsM M d = some d := rsv_nl _ d h
end

/-! ### as the library's data -/
mutual
def py : D → PyData
  | .non => .none
  | .bl b => .bool b
  | .int i => .int i
  | .str x => .str x
  | .lst xs => .list (pys xs)
  | .tup xs => .tuple (pys xs)
  | .frz xs => .list (pys xs)
  | .loc _ => .dict []
  | .emp => .dict []
  | .exn _ => .dict []
  | .obj _ _ => .dict []
def pys : List D → List PyData
  | [] => []
  | d :: ds => py d :: pys ds
end
theorem pys_map : ∀ ds, pys ds = ds.map py
  | [] => rfl
  | d :: ds => by rw [pys, pys_map ds]; rfl
section
variable {K : PySem.W.Frag} {H : Hp}
mutual
theorem Rep.dp : ∀ {x : V} {d : D}, Rep K H [] x d → SeqAt.shaped (py d) = true ∨ (py d).canLay0 = true → Dp K H x (py d)
  | _, _, .non, _ => .non
  | _, _, .bl b, _ => .bl b
  | _, _, .int i, _ => .int i
  | _, _, .str x, _ => .str x
  | _, _, .lst h r, e => .lst (SqL.of h) (Reps.dp r (by
    have e' : (py (D.lst _)).canLay0 = true := e.elim SeqAt.canLay_of_shaped id
    simpa [py, PyData.canLay0] using e'))
  | _, _, .tup h r, e => .tup (SqT.of h) (Reps.dp r (by
    have e' : (py (D.tup _)).canLay0 = true := e.elim SeqAt.canLay_of_shaped id
    simpa [py, PyData.canLay0] using e'))
  | _, _, .frz h r, e => .lst h (Reps.dp r (by
    have e' : (py (D.frz _)).canLay0 = true := e.elim SeqAt.canLay_of_shaped id
    simpa [py, PyData.canLay0] using e'))
  | _, _, .loc h, _ => absurd h (by simp)
  | _, _, .emp h, e => by
    have e' : (py D.emp).canLay0 = true := e.elim SeqAt.canLay_of_shaped id
    exact absurd e' (by simp [py, PyData.canLay0])
  | _, _, .exn (a := a), e => by
    have e' : (py (D.exn a)).canLay0 = true := e.elim SeqAt.canLay_of_shaped id
    exact absurd e' (by simp [py, PyData.canLay0])
  | _, _, .obj h t r, e => by
    have e' : (py (D.obj _ _)).canLay0 = true := e.elim SeqAt.canLay_of_shaped id
    exact absurd e' (by simp [py, PyData.canLay0])
theorem Reps.dp : ∀ {xs : List V} {ds : List D}, Reps K H [] xs ds → PyData.canLayAll0 (pys ds) = true → DpAll K H xs (pys ds)
  | _, _, .nil, _ => .nil
  | _, _, .cons h r, e => by
    simp only [pys, PyData.canLayAll0, Bool.and_eq_true] at e
    exact .cons (Rep.dp h (.inr e.1)) (Reps.dp r e.2)
end
end

/-! ### == -/
def eqD (M : List MO) (d e : D) : Option Bool := (rsM M d).bind fun a => (rsM M e).bind fun b => if SeqAt.shaped (py a) = true ∧ SeqAt.shaped (py b) = true then some (PyData.eqv (py a) (py b)) else none
def gEq (M : List MO) (d e : D) : Option D := (eqD M d e).map .bl
def gNe (M : List MO) (d e : D) : Option D := (eqD M d e).map fun b => .bl (!b)
theorem eqD_dp {G : Gx} {p : Ps} {M : List MO} {x y : V} {d e : D} {b : Bool} (ok : Ok G p M) (rx : Rep G.K p.S p.m x d) (ry : Rep G.K p.S p.m y e) (h : eqD M d e = some b) :
    ∃ u v, Dp G.K p.H x u ∧ Dp G.K p.H y v ∧ SeqAt.shaped u = true ∧ SeqAt.shaped v = true ∧ PyData.eqv u v = b := by
  obtain ⟨a, h1, h⟩ := bind_some h
  obtain ⟨c, h2, h⟩ := bind_some h
  split at h
  · rename_i hs
    cases h
    exact ⟨_, _, (rsM_ok ok rx h1).dp (.inl hs.1), (rsM_ok ok ry h2).dp (.inl hs.2), hs.1, hs.2, rfl⟩
  · cases h
section
variable {G : Gx}
theorem rb_eq : RB G (rEqD G.K) gEq := by
  intro p M x y d e z ok rx ry h Q k
  obtain ⟨b, h1, h2⟩ := map_some h
  subst h2
  obtain ⟨u, v, du, dv, su, sv, e2⟩ := eqD_dp ok rx ry h1
  refine ⟨u, v, du, dv, su, sv, ?_⟩
  rw [e2]
  exact k p _ (.refl p) rfl ok (.bl b)
theorem rb_ne : RB G (rNeD G.K) gNe := by
  intro p M x y d e z ok rx ry h Q k
  obtain ⟨b, h1, h2⟩ := map_some h
  subst h2
  obtain ⟨u, v, du, dv, su, sv, e2⟩ := eqD_dp ok rx ry h1
  refine ⟨u, v, du, dv, su, sv, ?_⟩
  rw [e2]
  exact k p _ (.refl p) rfl ok (.bl (!b))

/-! ### ints -/
def gI (f : Int → Int → Int) (_ : List MO) : D → D → Option D
  | .int i, .int j => some (.int (f i j))
  | _, _ => none
def gIB (f : Int → Int → Bool) (_ : List MO) : D → D → Option D
  | .int i, .int j => some (.bl (f i j))
  | _, _ => none
def gIC (C : Int → Int → Bool) (f : Int → Int → Int) (_ : List MO) : D → D → Option D
  | .int i, .int j => if C i j = true then some (.int (f i j)) else none
  | _, _ => none
theorem rb_I {f : Int → Int → Int} : RB G (rI0 fun i j => .int (f i j)) (gI f) := by
  intro p M x y d e z ok rx ry h Q k
  cases d with
  | int i => cases e with
    | int j => cases h; cases rx; cases ry; exact ⟨i, j, rfl, rfl, k p _ (.refl p) rfl ok (.int _)⟩
    | _ => cases h
  | _ => cases h
theorem rb_IB {f : Int → Int → Bool} : RB G (rI0 fun i j => .bl (f i j)) (gIB f) := by
  intro p M x y d e z ok rx ry h Q k
  cases d with
  | int i => cases e with
    | int j => cases h; cases rx; cases ry; exact ⟨i, j, rfl, rfl, k p _ (.refl p) rfl ok (.bl _)⟩
    | _ => cases h
  | _ => cases h
theorem rb_IC {C : Int → Int → Bool} {P : Int → Int → Prop} {f : Int → Int → Int} (hc : ∀ i j, C i j = true → P i j) : RB G (rI P fun i j => .int (f i j)) (gIC C f) := by
  intro p M x y d e z ok rx ry h Q k
  cases d with
  | int i => cases e with
    | int j =>
      simp only [gIC] at h
      split at h
      · rename_i c
        cases h; cases rx; cases ry; exact ⟨i, j, rfl, rfl, hc i j c, k p _ (.refl p) rfl ok (.int _)⟩
      · cases h
    | _ => cases h
  | _ => cases h
def gNeg (_ : List MO) : D → Option D
  | .int i => some (.int (-i))
  | _ => none
theorem ru_neg : RU G (L2.rU fun i => .int (-i)) gNeg := by
  intro p M x d z ok rx h Q k
  cases d with
  | int i => cases h; cases rx; exact ⟨i, rfl, k p _ (.refl p) rfl ok (.int _)⟩
  | _ => cases h

/-! ### + -/
def gAdd (M : List MO) : D → D → Option D
  | .int i, .int j => some (.int (i + j))
  | .int i, .bl b => some (.int (i + b2i b))
  | .bl a, .int j => some (.int ((if a = true then (1 : Int) else 0) + j))
  | .bl a, .bl b => some (.int (b2i a + b2i b))
  | d, e => (asL M d).bind fun xs => (asL M e).bind fun ys => if lim (xs.length + ys.length) = true then some (.lst (xs ++ ys)) else none
def rBI : R2 := fun x y H Q => ∃ a j, x = .bl a ∧ y = .int j ∧ Q (.int ((if a = true then (1 : Int) else 0) + j)) H
def rBB : R2 := fun x y H Q => ∃ a b, x = .bl a ∧ y = .bl b ∧ Q (.int (b2i a + b2i b)) H
def rIBt : R2 := fun x y H Q => ∃ i k, x = .int i ∧ y = .bl k ∧ Q (.int (i + b2i k)) H
def rAddA : R2 := fun x y H Q => rI0 (fun i j => .int (i + j)) x y H Q ∨ rIBt x y H Q ∨ rBI x y H Q ∨ rBB x y H Q ∨ rCat x y H Q
theorem op_bi {X : Cx} : OpR X (binaryOp .Add) rBI := by
  intro pins s σ H x y v u Q I rx ry h
  obtain ⟨a, j, rfl, rfl, q⟩ := h
  cases rx
  obtain ⟨t, rfl⟩ := ry
  exact PySem.IntBool.add_bool_int ⟨.int _, H, I.tok _, ⟨_, rfl⟩, q⟩
theorem op_bb {X : Cx} : OpR X (binaryOp .Add) rBB := by
  intro pins s σ H x y v u Q I rx ry h
  obtain ⟨a, b, rfl, rfl, q⟩ := h
  cases rx
  cases ry
  exact PyProof.Rows.add_bool ⟨.int _, H, I.tok _, ⟨_, rfl⟩, q⟩
theorem op_addA {X : Cx} : OpR X (binaryOp .Add) rAddA := OpR.or op_add (OpR.or op_add_ib (OpR.or op_bi (OpR.or op_bb op_cat)))
theorem rb_cat {p : Ps} {M : List MO} {x y : V} {d e z : D} (ok : Ok G p M) (rx : Rep G.K p.S p.m x d) (ry : Rep G.K p.S p.m y e)
    (h : ((asL M d).bind fun xs => (asL M e).bind fun ys => if lim (xs.length + ys.length) = true then some (D.lst (xs ++ ys)) else none) = some z)
    (Q : VK) (k : ∀ (q : Ps) (v : V), Le p q → q.z = p.z → Ok G q M → Rep G.K q.S q.m v z → Q v q.H) : rCat x y p.H Q := by
  obtain ⟨xs, h1, h⟩ := bind_some h
  obtain ⟨ys, h2, h⟩ := bind_some h
  split at h
  · rename_i hl
    cases h
    obtain ⟨a, us, rfl, h3, h4⟩ := asL_ok ok rx h1
    obtain ⟨b, vs, rfl, h5, h6⟩ := asL_ok ok ry h2
    refine ⟨a, b, us, vs, rfl, rfl, h3, h5, by rw [h4.length, h6.length]; exact lim_line hl, fun l hl => ?_⟩
    have l2 : Le p (p.shd l (.lst (us ++ vs))) := Le.shd hl (ok.S_none hl)
    exact k (p.shd l (.lst (us ++ vs))) (.ref l) l2 rfl (ok.shd hl) (.lst upd_same (l2.reps (h4.append h6)))
  · cases h
theorem rb_add : RB G rAddA gAdd := by
  intro p M x y d e z ok rx ry h Q k
  cases d with
  | int i => cases e with
    | int j => cases h; cases rx; cases ry; exact .inl ⟨i, j, rfl, rfl, k p _ (.refl p) rfl ok (.int _)⟩
    | bl j => cases h; cases rx; cases ry; exact .inr (.inl ⟨i, j, rfl, rfl, k p _ (.refl p) rfl ok (.int _)⟩)
    | _ => cases h
  | bl i => cases e with
    | int j => cases h; cases rx; cases ry; exact .inr (.inr (.inl ⟨i, j, rfl, rfl, k p _ (.refl p) rfl ok (.int _)⟩))
    | bl j => cases h; cases rx; cases ry; exact .inr (.inr (.inr (.inl ⟨i, j, rfl, rfl, k p _ (.refl p) rfl ok (.int _)⟩)))
    | _ => cases h
  | _ => exact .inr (.inr (.inr (.inr (rb_cat ok rx ry h Q k))))

/-! ### * -/
theorem CMulW2.ok {i j : Int} (h : i.natAbs.log2 + j.natAbs.log2 < 100000000) : IntMulOk i j := by
  have b : ∀ x : Int, Builtin.Int.intBits x ≤ x.natAbs.log2 + 1 := fun x => by
    unfold Builtin.Int.intBits
    split <;> omega
  have h1 := b i
  have h2 := b j
  have e : bitsLine = 134217728 := by decide
  unfold IntMulOk
  intro z
  rw [Bool.and_eq_true] at z
  have z2 := z.2
  unfold Builtin.Int.intTooBig at z2
  have z3 := of_decide_eq_true z2
  rw [e] at z3
  omega
def cMul (i j : Int) : Bool := decide (i.natAbs.log2 + j.natAbs.log2 < 100000000)
theorem op_mulA {X : Cx} : OpR X (binaryOp .Mult) (rI (fun i j => cMul i j = true) fun i j => .int (i * j)) := opI fun _ _ _ _ _ _ _ hc q => PyProof.Rows.mul_int q (CMulW2.ok (of_decide_eq_true hc))
def gMul (M : List MO) : D → D → Option D
  | .int i, .int j => if cMul i j = true then some (.int (i * j)) else none
  | d, .int k => (asL M d).bind fun xs => if (decide (-(2 ^ 63) ≤ k) && decide (k < 2 ^ 63) && lim (xs.length * k.toNat)) = true then some (.lst (List.replicate k.toNat xs).flatten) else none
  | _, _ => none
def rMulA : R2 := fun x y H Q => rI (fun i j => cMul i j = true) (fun i j => .int (i * j)) x y H Q ∨ rRep x y H Q
theorem op_mulAll {X : Cx} : OpR X (binaryOp .Mult) rMulA := OpR.or op_mulA op_rep
theorem Reps.rep {K : PySem.W.Frag} {S : Hp} {m : List Addr} {xs : List V} {ds : List D} (r : Reps K S m xs ds) : ∀ n : Nat, Reps K S m (List.replicate n xs).flatten (List.replicate n ds).flatten
  | 0 => .nil
  | n + 1 => by
    rw [List.replicate_succ, List.replicate_succ, List.flatten_cons, List.flatten_cons]
    exact r.append (Reps.rep r n)
theorem rb_rep {p : Ps} {M : List MO} {x : V} {k : Int} {d z : D} (ok : Ok G p M) (rx : Rep G.K p.S p.m x d)
    (h : ((asL M d).bind fun xs => if (decide (-(2 ^ 63) ≤ k) && decide (k < 2 ^ 63) && lim (xs.length * k.toNat)) = true then some (D.lst (List.replicate k.toNat xs).flatten) else none) = some z)
    (Q : VK) (c : ∀ (q : Ps) (v : V), Le p q → q.z = p.z → Ok G q M → Rep G.K q.S q.m v z → Q v q.H) : rRep x (.int k) p.H Q := by
  obtain ⟨xs, h1, h⟩ := bind_some h
  split at h
  · rename_i hl
    cases h
    simp only [Bool.and_eq_true, decide_eq_true_eq] at hl
    obtain ⟨⟨hl1, hl2⟩, hl3⟩ := hl
    obtain ⟨a, us, rfl, h3, h4⟩ := asL_ok ok rx h1
    refine ⟨a, k, us, rfl, rfl, h3, hl1, hl2, by rw [h4.length]; exact lim_line hl3, fun l hl => ?_⟩
    have l2 : Le p (p.shd l (.lst (List.replicate k.toNat us).flatten)) := Le.shd hl (ok.S_none hl)
    exact c (p.shd l (.lst (List.replicate k.toNat us).flatten)) (.ref l) l2 rfl (ok.shd hl) (.lst upd_same (l2.reps (h4.rep k.toNat)))
  · cases h
theorem rb_mul : RB G rMulA gMul := by
  intro p M x y d e z ok rx ry h Q k
  cases e with
  | int j =>
    cases ry
    cases d with
    | int i =>
      simp only [gMul] at h
      split at h
      · rename_i c
        cases h; cases rx; exact .inl ⟨i, j, rfl, rfl, c, k p _ (.refl p) rfl ok (.int _)⟩
      · cases h
    | lst xs => exact .inr (rb_rep ok rx h Q k)
    | loc xs => exact .inr (rb_rep ok rx h Q k)
    | _ => cases h
  | _ => cases d <;> cases h
end
end BX

set_option Elab.async false
set_option linter.all false
set_option maxRecDepth 100000
set_option maxHeartbeats 2000000
/-! BX4: more operations on data: order, in, subscripts, slices, built-ins, sorted. -/
namespace BX
open PySem L2
open PySem.W (EachIs dataLt alike dataLe TotalLe sameRank AllAlike Sortable)

section
variable {X : Cx} {G : Gx}

/-! ### order -/
def notNone : PyData → Bool
  | .none => false
  | _ => true
/-- two data compared by an operator: ints, or alike data of no great depth -/
def cmpD (f : Int → Int → Bool) (g : PyData → PyData → Bool) (M : List MO) (d e : D) : Option Bool := match d, e with
  | .int i, .int j => some (f i j)
  | d, e => (rsM M d).bind fun a => (rsM M e).bind fun b => if SeqAt.shaped (py a) = true ∧ SeqAt.shaped (py b) = true ∧ alike (py a) (py b) = true ∧ notNone (py a) = true then some (g (py a) (py b)) else none
def gCmp (f : Int → Int → Bool) (g : PyData → PyData → Bool) (M : List MO) (d e : D) : Option D := (cmpD f g M d e).map .bl
def rCmpD (K : PySem.W.Frag) (g : PyData → PyData → Bool) : R2 := fun x y H Q => ∃ d e, Dp K H x d ∧ Dp K H y e ∧ SeqAt.shaped d = true ∧ SeqAt.shaped e = true ∧ alike d e = true ∧ d ≠ .none ∧ Q (.bl (g d e)) H
theorem rb_cmp {f : Int → Int → Bool} {g : PyData → PyData → Bool} : RB G (fun x y H Q => rI0 (fun i j => .bl (f i j)) x y H Q ∨ rCmpD G.K g x y H Q) (gCmp f g) := by
  intro p M x y d e z ok rx ry h Q k
  obtain ⟨b, h1, h2⟩ := map_some h
  subst h2
  have gen : ∀ {d e : D}, Rep G.K p.S p.m x d → Rep G.K p.S p.m y e → ((rsM M d).bind fun a => (rsM M e).bind fun b => if SeqAt.shaped (py a) = true ∧ SeqAt.shaped (py b) = true ∧ alike (py a) (py b) = true ∧ notNone (py a) = true then some (g (py a) (py b)) else none) = some b →
      rCmpD G.K g x y p.H Q := fun {d e} rx ry h => by
    obtain ⟨a, e1, h⟩ := bind_some h
    obtain ⟨c, e2, h⟩ := bind_some h
    split at h
    · rename_i hs
      cases h
      refine ⟨_, _, (rsM_ok ok rx e1).dp (.inl hs.1), (rsM_ok ok ry e2).dp (.inl hs.2.1), hs.1, hs.2.1, hs.2.2.1, fun z => ?_, k p _ (.refl p) rfl ok (.bl _)⟩
      have h4 := hs.2.2.2
      rw [z] at h4
      exact absurd h4 (by simp [notNone])
    · cases h
  cases d with
  | int i => cases e with
    | int j => cases h1; cases rx; cases ry; exact .inl ⟨i, j, rfl, rfl, k p _ (.refl p) rfl ok (.bl _)⟩
    | _ => exact .inr (gen rx ry h1)
  | _ => exact .inr (gen rx ry h1)
theorem room64 {A : Around} {d e : PyData} (h : SeqAt.shaped d = true) (hu : A.units + 64 < cLine) : A.units + min d.depth e.depth < cLine := by
  have h1 := SeqAt.depth_of_shaped h
  have h2 : min d.depth e.depth ≤ d.depth := Nat.min_le_left _ _
  omega
theorem op_ltD (hu : X.A.units + 64 < cLine) : OpR X (compareOp .Lt) (rCmpD X.K dataLt) := by
  intro pins s σ H x y v u Q I rx ry h
  obtain ⟨d, e, hd, he, sd, se, al, nn, q⟩ := h
  obtain ⟨as, r1⟩ := Dp.reads I d x v hd rx
  obtain ⟨bs, r2⟩ := Dp.reads I e y u he ry
  exact PySem.W.lt_data r1 r2 al nn (room64 sd hu) ⟨.bl _, H, I, rfl, q⟩
theorem op_gtD (hu : X.A.units + 64 < cLine) : OpR X (compareOp .Gt) (rCmpD X.K fun a b => dataLt b a) := by
  intro pins s σ H x y v u Q I rx ry h
  obtain ⟨d, e, hd, he, sd, se, al, nn, q⟩ := h
  obtain ⟨as, r1⟩ := Dp.reads I d x v hd rx
  obtain ⟨bs, r2⟩ := Dp.reads I e y u he ry
  exact PySem.W.gt_data r1 r2 al nn (room64 sd hu) ⟨.bl _, H, I, rfl, q⟩
theorem op_leD (hu : X.A.units + 64 < cLine) : OpR X (compareOp .LtE) (rCmpD X.K fun a b => !dataLt b a) := by
  intro pins s σ H x y v u Q I rx ry h
  obtain ⟨d, e, hd, he, sd, se, al, nn, q⟩ := h
  obtain ⟨as, r1⟩ := Dp.reads I d x v hd rx
  obtain ⟨bs, r2⟩ := Dp.reads I e y u he ry
  exact PySem.W.le_data r1 r2 al nn (room64 sd hu) ⟨.bl _, H, I, rfl, q⟩
theorem op_geD (hu : X.A.units + 64 < cLine) : OpR X (compareOp .GtE) (rCmpD X.K fun a b => !dataLt a b) := by
  intro pins s σ H x y v u Q I rx ry h
  obtain ⟨d, e, hd, he, sd, se, al, nn, q⟩ := h
  obtain ⟨as, r1⟩ := Dp.reads I d x v hd rx
  obtain ⟨bs, r2⟩ := Dp.reads I e y u he ry
  exact PySem.W.ge_data r1 r2 al nn (room64 sd hu) ⟨.bl _, H, I, rfl, q⟩
abbrev gLt := gCmp (fun i j => decide (i < j)) dataLt
abbrev gLe := gCmp (fun i j => decide (i ≤ j)) fun a b => !dataLt b a
abbrev gGt := gCmp (fun i j => decide (j < i)) fun a b => dataLt b a
abbrev gGe := gCmp (fun i j => decide (j ≤ i)) fun a b => !dataLt a b
abbrev rLtA (K : PySem.W.Frag) : R2 := fun x y H Q => rI0 (fun i j => .bl (decide (i < j))) x y H Q ∨ rCmpD K (dataLt) x y H Q
theorem op_ltA (hu : X.A.units + 64 < cLine) : OpR X (compareOp .Lt) (rLtA X.K) := OpR.or op_lt (op_ltD hu)
abbrev rLeA (K : PySem.W.Frag) : R2 := fun x y H Q => rI0 (fun i j => .bl (decide (i ≤ j))) x y H Q ∨ rCmpD K (fun a b => !dataLt b a) x y H Q
theorem op_leA (hu : X.A.units + 64 < cLine) : OpR X (compareOp .LtE) (rLeA X.K) := OpR.or op_le (op_leD hu)
abbrev rGtA (K : PySem.W.Frag) : R2 := fun x y H Q => rI0 (fun i j => .bl (decide (j < i))) x y H Q ∨ rCmpD K (fun a b => dataLt b a) x y H Q
theorem op_gtA (hu : X.A.units + 64 < cLine) : OpR X (compareOp .Gt) (rGtA X.K) := OpR.or op_gt (op_gtD hu)
abbrev rGeA (K : PySem.W.Frag) : R2 := fun x y H Q => rI0 (fun i j => .bl (decide (j ≤ i))) x y H Q ∨ rCmpD K (fun a b => !dataLt a b) x y H Q
theorem op_geA (hu : X.A.units + 64 < cLine) : OpR X (compareOp .GtE) (rGeA X.K) := OpR.or op_ge (op_geD hu)

/-! ### in (flat things), in of data -/
def flatD : D → Bool
  | .non => true
  | .bl _ => true
  | .int _ => true
  | .str _ => true
  | _ => false
def eqF : D → D → Bool
  | .non, .non => true
  | .bl a, .bl b => a == b
  | .bl a, .int b => (if a then 1 else 0) == b
  | .int a, .bl b => a == (if b then 1 else 0)
  | .int a, .int b => a == b
  | .str a, .str b => a == b
  | _, _ => false
def inD (M : List MO) (d e : D) : Option Bool := (asS M e).bind fun ds => if flatD d = true ∧ ds.all flatD = true then some (ds.any fun z => eqF z d)
  else match e with
    | .tup _ => none
    | e => (rsM M d).bind fun a => (rsM M e).bind fun b => match py b with
      | .list zs => if SeqAt.shaped (py a) = true ∧ SeqAt.shaped (.list zs) = true then some (zs.any fun z => PyData.eqv z (py a)) else none
      | _ => none
def gIn (M : List MO) (d e : D) : Option D := (inD M d e).map .bl
def gNin (M : List MO) (d e : D) : Option D := (inD M d e).map fun b => .bl (!b)
theorem flat_rep {K : PySem.W.Frag} {S : Hp} {m : List Addr} {x : V} {d : D} (r : Rep K S m x d) (h : flatD d = true) : flatV x = true := by
  cases r <;> first | rfl | cases h
theorem flat_reps {K : PySem.W.Frag} {S : Hp} {m : List Addr} : ∀ {xs : List V} {ds : List D}, Reps K S m xs ds → ds.all flatD = true → xs.all flatV = true
  | _, _, .nil, _ => rfl
  | _, _, .cons h r, e => by
    rw [List.all_cons, Bool.and_eq_true] at e
    rw [List.all_cons, flat_rep h e.1, flat_reps r e.2]
    rfl
theorem eqF_rep {K : PySem.W.Frag} {S : Hp} {m : List Addr} {x y : V} {d e : D} (r : Rep K S m x d) (q : Rep K S m y e) (h : flatD d = true) (h' : flatD e = true) : eqV x y = eqF d e := by
  cases r with
  | non => cases q <;> first | rfl | cases h'
  | bl b => cases q <;> first | rfl | cases h'
  | int i => cases q <;> first | rfl | cases h'
  | str z => cases q <;> first | rfl | cases h'
  | _ => cases h
theorem inV_rep {K : PySem.W.Frag} {S : Hp} {m : List Addr} {x : V} {d : D} (q : Rep K S m x d) (h : flatD d = true) : ∀ {xs : List V} {ds : List D}, Reps K S m xs ds → ds.all flatD = true → inV x xs = ds.any fun z => eqF z d
  | _, _, .nil, _ => rfl
  | _, _, .cons r rs, e => by
    rw [List.all_cons, Bool.and_eq_true] at e
    have ih := inV_rep q h rs e.2
    unfold inV at ih ⊢
    rw [List.any_cons, List.any_cons, eqF_rep r q e.1 h, ih]
theorem inD_ok {p : Ps} {M : List MO} {x y : V} {d e : D} {b neg : Bool} (ok : Ok G p M) (rx : Rep G.K p.S p.m x d) (ry : Rep G.K p.S p.m y e) (h : inD M d e = some b) (Q : VK) (k : Q (.bl (if neg then !b else b)) p.H) :
    rIn G.K neg x y p.H Q ∨ (∃ d ds, Dp G.K p.H x d ∧ Dp G.K p.H y (.list ds) ∧ SeqAt.shaped d = true ∧ SeqAt.shaped (.list ds) = true ∧ Q (.bl (if neg then !(ds.any fun z => PyData.eqv z d) else (ds.any fun z => PyData.eqv z d))) p.H) := by
  obtain ⟨ds, h1, h⟩ := bind_some h
  obtain ⟨a, xs, rfl, h2, h3⟩ := asS_ok ok ry h1
  split at h
  · rename_i hf
    cases h
    refine .inl ⟨a, xs, rfl, h2, flat_rep rx hf.1, flat_reps h3 hf.2, ?_⟩
    rw [inV_rep rx hf.1 h3 hf.2]
    exact k
  · have gen : ((rsM M d).bind fun a => (rsM M e).bind fun b => match py b with
      | .list zs => if SeqAt.shaped (py a) = true ∧ SeqAt.shaped (.list zs) = true then some (zs.any fun z => PyData.eqv z (py a)) else none
      | _ => none) = some b → (∃ d ds, Dp G.K p.H x d ∧ Dp G.K p.H (.ref a) (.list ds) ∧ SeqAt.shaped d = true ∧ SeqAt.shaped (.list ds) = true ∧ Q (.bl (if neg then !(ds.any fun z => PyData.eqv z d) else (ds.any fun z => PyData.eqv z d))) p.H) := fun h => by
      obtain ⟨u, e1, h⟩ := bind_some h
      obtain ⟨v, e2, h⟩ := bind_some h
      split at h
      · rename_i zs ez
        split at h
        · rename_i hs
          cases h
          refine ⟨_, zs, (rsM_ok ok rx e1).dp (.inl hs.1), ?_, hs.1, hs.2, k⟩
          rw [← ez]
          exact (rsM_ok ok ry e2).dp (.inl (by rw [ez]; exact hs.2))
        · cases h
      · cases h
    split at h
    · cases h
    · exact .inr (gen h)
theorem op_inA (hu : X.A.units + 65 < cLine) : OpR X (compareOp .In) (fun x y H Q => rIn X.K false x y H Q ∨ rInD X.K x y H Q) := OpR.or op_in_seq (op_inD hu)
theorem op_ninA (hu : X.A.units + 65 < cLine) : OpR X (compareOp .NotIn) (fun x y H Q => rIn X.K true x y H Q ∨ rNotInD X.K x y H Q) := OpR.or op_notIn_seq (op_notInD hu)
theorem rb_in : RB G (fun x y H Q => rIn G.K false x y H Q ∨ rInD G.K x y H Q) gIn := by
  intro p M x y d e z ok rx ry h Q k
  obtain ⟨b, h1, h2⟩ := map_some h
  subst h2
  rcases inD_ok (neg := false) ok rx ry h1 Q (k p _ (.refl p) rfl ok (.bl b)) with q | q
  · exact .inl q
  · exact .inr q
theorem rb_nin : RB G (fun x y H Q => rIn G.K true x y H Q ∨ rNotInD G.K x y H Q) gNin := by
  intro p M x y d e z ok rx ry h Q k
  obtain ⟨b, h1, h2⟩ := map_some h
  subst h2
  rcases inD_ok (neg := true) ok rx ry h1 Q (k p _ (.refl p) rfl ok (.bl (!b))) with q | q
  · exact .inl q
  · exact .inr q

/-! ### is None, is True -/
def gIsN (_ : List MO) : D → D → Option D
  | .non, .non => some (.bl true)
  | .loc _, .non => some (.bl false)
  | _, .non => some (.bl false)
  | .bl a, .bl b => some (.bl (decide (a = b)))
  | _, _ => none
def gNisN (M : List MO) (d e : D) : Option D := match gIsN M d e with
  | some (.bl b) => some (.bl (!b))
  | _ => none
def rIsA : R2 := fun x y H Q => (y = .non ∧ Q (.bl (decide (x = .non))) H) ∨ (∃ a b, x = .bl a ∧ y = .bl b ∧ Q (.bl (decide (a = b))) H)
def rNisA : R2 := fun x y H Q => (y = .non ∧ Q (.bl (!decide (x = .non))) H) ∨ (∃ a b, x = .bl a ∧ y = .bl b ∧ Q (.bl (!decide (a = b))) H)
theorem op_isA : OpR X (compareOp .Is) rIsA := OpR.or op_isN op_is_bl
theorem op_nisA : OpR X (compareOp .IsNot) rNisA := OpR.or op_notN op_isnot_bl
theorem isN_rep {K : PySem.W.Frag} {S : Hp} {m : List Addr} {x : V} {d : D} {M : List MO} {z : D} (r : Rep K S m x d) (h : gIsN M d .non = some z) : z = .bl (decide (x = .non)) := by
  cases r <;> (cases h; rfl)
theorem rb_is : RB G rIsA gIsN := by
  intro p M x y d e z ok rx ry h Q k
  cases e with
  | non =>
    cases ry
    refine .inl ⟨rfl, ?_⟩
    have e1 := isN_rep rx h
    subst e1
    exact k p _ (.refl p) rfl ok (.bl _)
  | bl b =>
    cases ry
    cases d with
    | bl a =>
      cases rx; cases h
      exact .inr ⟨a, b, rfl, rfl, k p _ (.refl p) rfl ok (.bl _)⟩
    | _ => cases h
  | _ => cases d <;> cases h
theorem rb_nis : RB G rNisA gNisN := by
  intro p M x y d e z ok rx ry h Q k
  unfold gNisN at h
  split at h
  · rename_i b hb
    cases h
    cases e with
    | non =>
      cases ry
      refine .inl ⟨rfl, ?_⟩
      have e1 := isN_rep rx hb
      cases e1
      exact k p _ (.refl p) rfl ok (.bl _)
    | bl b =>
      cases ry
      cases d with
      | bl a =>
        cases rx; cases hb
        exact .inr ⟨a, b, rfl, rfl, k p _ (.refl p) rfl ok (.bl _)⟩
      | _ => cases hb
    | _ => cases d <;> cases hb
  · cases h

/-! ### subscripts, slices -/
def gIx (M : List MO) (d e : D) : Option D := match e with
  | .int i => (asS M d).bind fun xs => atI xs i
  | _ => none
theorem atI_rep {K : PySem.W.Frag} {S : Hp} {m : List Addr} {xs : List V} {ds : List D} {i : Int} {d : D} (r : Reps K S m xs ds) (h : atI ds i = some d) : ∃ x, atI xs i = some x ∧ Rep K S m x d := by
  unfold atI at h ⊢
  obtain ⟨j, h1, h2⟩ := bind_some h
  obtain ⟨x, h3, h4⟩ := r.get h2
  refine ⟨x, ?_, h4⟩
  rw [r.length, h1]
  exact h3
theorem rb_ix : RB G (fun x y H Q => rIxL G.K x y H Q ∨ rIxT G.K x y H Q) gIx := by
  intro p M x y d e z ok rx ry h Q k
  cases e with
  | int i =>
    cases ry
    obtain ⟨ds, h1, h2⟩ := bind_some h
    obtain ⟨a, xs, rfl, h3, h4⟩ := asS_ok ok rx h1
    obtain ⟨v, h5, h6⟩ := atI_rep h4 h2
    rcases h3 with h3 | h3
    · exact .inl ⟨a, xs, i, v, rfl, rfl, h3, h5, k p v (.refl p) rfl ok h6⟩
    · exact .inr ⟨a, xs, i, v, rfl, rfl, h3, h5, k p v (.refl p) rfl ok h6⟩
  | _ => cases h
def cutD (xs : List D) (lo hi : Option Int) : List D := (xs.drop (HT.sIx xs.length 0 lo)).take (HT.sIx xs.length xs.length hi - HT.sIx xs.length 0 lo)
theorem cut_rep {K : PySem.W.Frag} {S : Hp} {m : List Addr} {xs : List V} {ds : List D} (lo hi : Option Int) (r : Reps K S m xs ds) : Reps K S m (cutV xs lo hi) (cutD ds lo hi) := by
  unfold cutV cutD
  rw [r.length]
  exact (r.drop _).take _
end

section
variable {X : Cx} {a b c o : Expr} {es : List Expr} {pos : Pos} {fa fb fc : FE} {fs : FA}
theorem se_ix (ha : SE X a fa) (hb : SE X b fb) (hs : PlainIx b := by exact fun _ _ => rfl) : SE X (.Subscript a b pos) (eBin gIx fa fb) := by
  obtain ⟨ta, pa, va⟩ := ha.ex
  obtain ⟨tb, pb, vb⟩ := hb.ex
  exact ⟨_, pe_ix (IxR.or ix_list ix_tup) pa pb hs, ev_bin rb_ix va vb⟩
/-- a part of a slice -/
abbrev FO := En → List MO → Option (Option Int × List MO)
def oNone (_ : En) (M : List MO) : Option (Option Int × List MO) := some (none, M)
def oSome (a : FE) (env : En) (M : List MO) : Option (Option Int × List MO) := (a env M).bind fun r => match r.1 with
  | .int i => some (some i, r.2)
  | _ => none
def EvO (G : Gx) (to : TO) (f : FO) : Prop := ∀ (p : Ps) (env : En) (M : List MO) (σ : St) (o : Option Int) (M' : List MO), Ok G p M → EnvR G p env σ → f env M = some (o, M') →
  ∀ Q : Option Int → Hp → Prop, (∀ (q : Ps), Le p q → q.z = p.z → Ok G q M' → Q o q.H) → to σ p.H Q
structure SO (X : Cx) (e : Option Expr) (f : FO) : Prop where
  ex : ∃ to, PO X e to ∧ EvO (gx X) to f
theorem so_none : SO X none oNone := ⟨_, po_none, fun p env M σ o M' ok er h Q k => by cases h; exact k p (.refl p) rfl ok⟩
theorem so_some (h : SE X a fa) : SO X (some a) (oSome fa) := by
  obtain ⟨ta, pa, va⟩ := h.ex
  refine ⟨_, po_some pa, fun p env M σ o M' ok er h Q k => ?_⟩
  obtain ⟨⟨d1, M1⟩, e1, h⟩ := bind_some h
  cases d1 with
  | int i =>
    cases h
    refine va p env M σ _ _ ok er e1 _ fun q x l m ok1 x1 => ?_
    cases x1
    exact ⟨i, rfl, k q l m ok1⟩
  | _ => cases h
/-- a list or the script cut -/
def eSl (a : FE) (lo hi : FO) (env : En) (M : List MO) : Option (D × List MO) := (a env M).bind fun r => (lo env r.2).bind fun s => (hi env s.2).bind fun t => (asR t.2 r.1).map fun xs => (.lst (cutD xs s.1 t.1), t.2)
theorem se_sl {lo hi : Option Expr} {fl fh : FO} {p2 : Pos} (ha : SE X a fa) (hl : SO X lo fl) (hh : SO X hi fh) : SE X (.Subscript a (.Slice lo hi none p2) pos) (eSl fa fl fh) := by
  obtain ⟨ta, pa, va⟩ := ha.ex
  obtain ⟨tl, pl, vl⟩ := hl.ex
  obtain ⟨th, ph, vh⟩ := hh.ex
  refine ⟨_, pe_slice sl_list pa pl ph, fun p env M σ d M' ok er h Q k => ?_⟩
  obtain ⟨⟨d1, M1⟩, e1, h⟩ := bind_some h
  obtain ⟨⟨i, M2⟩, e2, h⟩ := bind_some h
  obtain ⟨⟨j, M3⟩, e3, h⟩ := bind_some h
  obtain ⟨xs, e4, h⟩ := map_some h
  cases h
  refine va p env M σ _ _ ok er e1 _ fun q x l1 m1 ok1 x1 => ?_
  refine vl q env M1 σ i M2 ok1 (er.mono l1) e2 _ fun q2 l2 m2 ok2 => ?_
  refine vh q2 env M2 σ j _ ok2 (er.mono (l1.trans l2)) e3 _ fun q3 l3 m3 ok3 => ?_
  obtain ⟨a, us, rfl, h3, h4⟩ := asR_ok ok3 ((l2.trans l3).rep x1) e4
  refine ⟨a, us, rfl, h3, fun l hl => ?_⟩
  have l4 : Le q3 (q3.shd l (.lst (cutV us i j))) := Le.shd hl (ok3.S_none hl)
  exact k (q3.shd l (.lst (cutV us i j))) (.ref l) ((l1.trans (l2.trans l3)).trans l4) (m3.trans (m2.trans m1)) (ok3.shd hl) (.lst upd_same (l4.reps (cut_rep i j h4)))
end
end BX

set_option Elab.async false
set_option linter.all false
set_option maxRecDepth 100000
set_option maxHeartbeats 2000000
/-! BX5: built-in functions, methods that read. -/
namespace BX
open PySem L2
open PySem.W (EachIs dataLt alike dataLe TotalLe sameRank AllAlike Sortable)

/-! ### ints of data, bools of data -/
def intD : D → Option Int
  | .int i => some i
  | _ => none
def intsD : List D → Option (List Int)
  | [] => some []
  | .int i :: ds => (intsD ds).map fun is => i :: is
  | _ :: _ => none
theorem intsD_some : ∀ {ds : List D} {ns : List Int}, intsD ds = some ns → ds = ns.map D.int
  | [], _, h => by cases h; rfl
  | .int i :: ds, ns, h => by
    rw [intsD] at h
    obtain ⟨is, h1, h2⟩ := map_some h
    subst h2
    rw [intsD_some h1]
    rfl
theorem intsD_map (ns : List Int) : intsD (ns.map D.int) = some ns := by
  induction ns with
  | nil => rfl
  | cons n ns ih =>
    show (intsD (ns.map D.int)).map _ = _
    rw [ih]
    rfl
def boolsD : List D → Option (List Bool)
  | [] => some []
  | .bl i :: ds => (boolsD ds).map fun is => i :: is
  | _ :: _ => none
theorem boolsD_some : ∀ {ds : List D} {ns : List Bool}, boolsD ds = some ns → ds = ns.map D.bl
  | [], _, h => by cases h; rfl
  | .bl i :: ds, ns, h => by
    rw [boolsD] at h
    obtain ⟨is, h1, h2⟩ := map_some h
    subst h2
    rw [boolsD_some h1]
    rfl
theorem boolsD_map (ns : List Bool) : boolsD (ns.map D.bl) = some ns := by
  induction ns with
  | nil => rfl
  | cons n ns ih =>
    show (boolsD (ns.map D.bl)).map _ = _
    rw [ih]
    rfl
theorem Reps.bools_inv {K : PySem.W.Frag} {S : Hp} {m : List Addr} : ∀ {xs : List V} {ns : List Bool}, Reps K S m xs (ns.map D.bl) → xs = ns.map V.bl
  | _, [], .nil => rfl
  | _, n :: ns, .cons h r => by
    cases h
    rw [Reps.bools_inv r]
    rfl
/-! ### the greatest, the least -/
def lmax : Int → List Int → Int
  | m, [] => m
  | m, x :: xs => lmax (if m < x then x else m) xs
def lmin : Int → List Int → Int
  | m, [] => m
  | m, x :: xs => lmin (if x < m then x else m) xs
theorem lmax_spec : ∀ (xs : List Int) (m : Int), (lmax m xs = m ∨ lmax m xs ∈ xs) ∧ m ≤ lmax m xs ∧ ∀ y ∈ xs, y ≤ lmax m xs
  | [], m => ⟨.inl rfl, Int.le_refl _, fun y h => by cases h⟩
  | x :: xs, m => by
    obtain ⟨h1, h2, h3⟩ := lmax_spec xs (if m < x then x else m)
    rw [lmax]
    refine ⟨?_, ?_, fun y hy => ?_⟩
    · rcases h1 with h1 | h1
      · by_cases hx : m < x
        · rw [if_pos hx] at h1 ⊢
          rw [h1]
          exact .inr List.mem_cons_self
        · rw [if_neg hx] at h1 ⊢
          exact .inl h1
      · exact .inr (List.mem_cons_of_mem _ h1)
    · split at h2 <;> rename_i hx
      · rw [if_pos hx]; omega
      · rw [if_neg hx]; exact h2
    · rcases List.mem_cons.mp hy with rfl | hy
      · split at h2 <;> rename_i hx
        · rw [if_pos hx]; exact h2
        · rw [if_neg hx]; omega
      · exact h3 y hy
theorem lmin_spec : ∀ (xs : List Int) (m : Int), (lmin m xs = m ∨ lmin m xs ∈ xs) ∧ lmin m xs ≤ m ∧ ∀ y ∈ xs, lmin m xs ≤ y
  | [], m => ⟨.inl rfl, Int.le_refl _, fun y h => by cases h⟩
  | x :: xs, m => by
    obtain ⟨h1, h2, h3⟩ := lmin_spec xs (if x < m then x else m)
    rw [lmin]
    refine ⟨?_, ?_, fun y hy => ?_⟩
    · rcases h1 with h1 | h1
      · by_cases hx : x < m
        · rw [if_pos hx] at h1 ⊢
          rw [h1]
          exact .inr List.mem_cons_self
        · rw [if_neg hx] at h1 ⊢
          exact .inl h1
      · exact .inr (List.mem_cons_of_mem _ h1)
    · split at h2 <;> rename_i hx
      · rw [if_pos hx]; omega
      · rw [if_neg hx]; exact h2
    · rcases List.mem_cons.mp hy with rfl | hy
      · split at h2 <;> rename_i hx
        · rw [if_pos hx]; exact h2
        · rw [if_neg hx]; omega
      · exact h3 y hy

section
variable {X : Cx} {G : Gx}
def gLen (M : List MO) : List D → Option D
  | [d] => (asS M d).map fun xs => .int (xs.length : Nat)
  | _ => none
theorem one_rep {K : PySem.W.Frag} {S : Hp} {m : List Addr} {xs : List V} {d : D} (r : Reps K S m xs [d]) : ∃ x, xs = [x] ∧ Rep K S m x d := by
  cases r with
  | cons h r => cases r; exact ⟨_, rfl, h⟩
theorem two_rep {K : PySem.W.Frag} {S : Hp} {m : List Addr} {xs : List V} {d e : D} (r : Reps K S m xs [d, e]) : ∃ x y, xs = [x, y] ∧ Rep K S m x d ∧ Rep K S m y e := by
  cases r with
  | cons h r => cases r with
    | cons h2 r => cases r; exact ⟨_, _, rfl, h, h2⟩
abbrev rLenA (K : PySem.W.Frag) : List V → Hp → VK → Prop := fun xs H Q => ∃ p ys, xs = [.ref p] ∧ (SqL K H p ys ∨ SqT K H p ys) ∧ Q (.int ys.length) H
theorem rc_len : RC G (rLenA G.K) gLen := by
  intro p M xs ds z ok r h Q k
  match ds, h with
  | [d], h =>
    obtain ⟨ys, h1, h2⟩ := map_some h
    subst h2
    obtain ⟨x, rfl, rx⟩ := one_rep r
    obtain ⟨a, us, rfl, h3, h4⟩ := asS_ok ok rx h1
    refine ⟨a, us, rfl, h3, ?_⟩
    rw [h4.length]
    exact k p _ (.refl p) rfl ok (.int _)
/-- list(x): a list, a tuple, the script -/
def gList (M : List MO) : List D → Option D
  | [d] => (asS M d).map .lst
  | _ => none
abbrev rListA (K : PySem.W.Frag) : List V → Hp → VK → Prop := fun xs H Q => ∃ p ys, xs = [.ref p] ∧ (SqL K H p ys ∨ SqT K H p ys) ∧ ∀ l, H l = none → Q (.ref l) (upd H l (.lst ys))
theorem rc_list : RC G (rListA G.K) gList := by
  intro p M xs ds z ok r h Q k
  match ds, h with
  | [d], h =>
    obtain ⟨ys, h1, h2⟩ := map_some h
    subst h2
    obtain ⟨x, rfl, rx⟩ := one_rep r
    obtain ⟨a, us, rfl, h3, h4⟩ := asS_ok ok rx h1
    refine ⟨a, us, rfl, h3, fun l hl => ?_⟩
    have l2 : Le p (p.shd l (.lst us)) := Le.shd hl (ok.S_none hl)
    exact k (p.shd l (.lst us)) (.ref l) l2 rfl (ok.shd hl) (.lst upd_same (l2.reps h4))
def gTuple (M : List MO) : List D → Option D
  | [.tup xs] => some (.tup xs)
  | [d] => (asR M d).map .tup
  | _ => none
abbrev rTupleA (K : PySem.W.Frag) : List V → Hp → VK → Prop := fun xs H Q => ∃ p ys, xs = [.ref p] ∧ ((SqL K H p ys ∧ ∀ l, H l = none → Q (.ref l) (upd H l (.tup ys))) ∨ (SqT K H p ys ∧ Q (.ref p) H))
theorem rc_tuple : RC G (rTupleA G.K) gTuple := by
  intro p M xs ds z ok r h Q k
  have gen : ∀ {d : D} {x : V}, Rep G.K p.S p.m x d → (asR M d).map .tup = some z → rTupleA G.K [x] p.H Q := fun {d x} rx h => by
    obtain ⟨ys, h1, h2⟩ := map_some h
    subst h2
    obtain ⟨a, us, rfl, h3, h4⟩ := asR_ok ok rx h1
    refine ⟨a, us, rfl, .inl ⟨h3, fun l hl => ?_⟩⟩
    have l2 : Le p (p.shd l (.tup us)) := Le.shd hl (ok.S_none hl)
    exact k (p.shd l (.tup us)) (.ref l) l2 rfl (ok.shd hl) (.tup upd_same (l2.reps h4))
  match ds, h with
  | [d], h =>
    obtain ⟨x, rfl, rx⟩ := one_rep r
    cases d with
    | tup ys =>
      cases h
      cases rx with
      | tup h1 h2 => exact ⟨_, _, rfl, .inr ⟨SqT.of (ok.sub _ _ h1), k p _ (.refl p) rfl ok (.tup h1 h2)⟩⟩
    | _ => exact gen rx h
  | _ :: _ :: _, h => simp [gTuple] at h
  | [], h => simp [gTuple] at h
def gAll (M : List MO) : List D → Option D
  | [d] => (asR M d).bind fun xs => (boolsD xs).map fun bs => .bl (bs.all id)
  | _ => none
def gAny (M : List MO) : List D → Option D
  | [d] => (asR M d).bind fun xs => (boolsD xs).map fun bs => .bl (bs.any id)
  | _ => none
theorem rc_all : RC G (rAll G.K) gAll := by
  intro p M xs ds z ok r h Q k
  match ds, h with
  | [d], h =>
    obtain ⟨ys, h1, h⟩ := bind_some h
    obtain ⟨bs, h2, h⟩ := map_some h
    subst h
    obtain ⟨x, rfl, rx⟩ := one_rep r
    obtain ⟨a, us, rfl, h3, h4⟩ := asR_ok ok rx h1
    rw [boolsD_some h2] at h4
    have e := h4.bools_inv
    subst e
    exact ⟨a, bs, rfl, h3, k p _ (.refl p) rfl ok (.bl _)⟩
theorem rc_any : RC G (rAny G.K) gAny := by
  intro p M xs ds z ok r h Q k
  match ds, h with
  | [d], h =>
    obtain ⟨ys, h1, h⟩ := bind_some h
    obtain ⟨bs, h2, h⟩ := map_some h
    subst h
    obtain ⟨x, rfl, rx⟩ := one_rep r
    obtain ⟨a, us, rfl, h3, h4⟩ := asR_ok ok rx h1
    rw [boolsD_some h2] at h4
    have e := h4.bools_inv
    subst e
    exact ⟨a, bs, rfl, h3, k p _ (.refl p) rfl ok (.bl _)⟩
def gSum (M : List MO) : List D → Option D
  | [d] => (asR M d).bind fun xs => (intsD xs).map fun ns => .int ns.sum
  | _ => none
theorem rc_sum : RC G (rSum G.K) gSum := by
  intro p M xs ds z ok r h Q k
  match ds, h with
  | [d], h =>
    obtain ⟨ys, h1, h⟩ := bind_some h
    obtain ⟨bs, h2, h⟩ := map_some h
    subst h
    obtain ⟨x, rfl, rx⟩ := one_rep r
    obtain ⟨a, us, rfl, h3, h4⟩ := asR_ok ok rx h1
    rw [intsD_some h2] at h4
    have e := h4.ints_inv
    subst e
    exact ⟨a, bs, rfl, h3, k p _ (.refl p) rfl ok (.int _)⟩
def gMax (M : List MO) : List D → Option D
  | [.int i, .int j] => some (.int (if j > i then j else i))
  | [d] => (asR M d).bind fun xs => match intsD xs with
    | some (n :: ns) => some (.int (lmax n ns))
    | _ => none
  | _ => none
def gMin (M : List MO) : List D → Option D
  | [.int i, .int j] => some (.int (if j < i then j else i))
  | [d] => (asR M d).bind fun xs => match intsD xs with
    | some (n :: ns) => some (.int (lmin n ns))
    | _ => none
  | _ => none
abbrev rMaxA (K : PySem.W.Frag) : List V → Hp → VK → Prop := fun xs H Q => (∃ i j, xs = [.int i, .int j] ∧ Q (.int (if j > i then j else i)) H) ∨ rMax K xs H Q
abbrev rMinA (K : PySem.W.Frag) : List V → Hp → VK → Prop := fun xs H Q => (∃ i j, xs = [.int i, .int j] ∧ Q (.int (if j < i then j else i)) H) ∨ rMin K xs H Q
theorem cr_maxA (hc : X.calm = true) : CallR X (.builtin "max") (rMaxA X.K) := CallR.or (call_max2 hc) (cr_max hc)
theorem cr_minA (hc : X.calm = true) : CallR X (.builtin "min") (rMinA X.K) := CallR.or (call_min2 hc) (cr_min hc)
theorem rc_max : RC G (rMaxA G.K) gMax := by
  intro p M xs ds z ok r h Q k
  match ds, h with
  | [.int i, .int j], h =>
    cases h
    obtain ⟨x, y, rfl, rx, ry⟩ := two_rep r
    cases rx; cases ry
    exact .inl ⟨i, j, rfl, k p _ (.refl p) rfl ok (.int _)⟩
  | [d], h =>
    have h : ((asR M d).bind fun xs => match intsD xs with
      | some (n :: ns) => some (D.int (lmax n ns))
      | _ => none) = some z := by cases d <;> exact h
    obtain ⟨ys, h1, h⟩ := bind_some h
    split at h
    · rename_i n ns h2
      cases h
      obtain ⟨x, rfl, rx⟩ := one_rep r
      obtain ⟨a, us, rfl, h3, h4⟩ := asR_ok ok rx h1
      rw [intsD_some h2] at h4
      have e := h4.ints_inv
      subst e
      refine .inr ⟨a, n :: ns, rfl, h3, by simp, fun m hm hle => ?_⟩
      obtain ⟨s1, s2, s3⟩ := lmax_spec ns n
      have e : m = lmax n ns := by
        have h5 : lmax n ns ≤ m := by
          rcases s1 with s1 | s1
          · rw [s1]; exact hle n List.mem_cons_self
          · exact hle _ (List.mem_cons_of_mem _ s1)
        have h6 : m ≤ lmax n ns := by
          rcases List.mem_cons.mp hm with rfl | hm
          · exact s2
          · exact s3 m hm
        omega
      subst e
      exact k p _ (.refl p) rfl ok (.int _)
    · cases h
theorem rc_min : RC G (rMinA G.K) gMin := by
  intro p M xs ds z ok r h Q k
  match ds, h with
  | [.int i, .int j], h =>
    cases h
    obtain ⟨x, y, rfl, rx, ry⟩ := two_rep r
    cases rx; cases ry
    exact .inl ⟨i, j, rfl, k p _ (.refl p) rfl ok (.int _)⟩
  | [d], h =>
    have h : ((asR M d).bind fun xs => match intsD xs with
      | some (n :: ns) => some (D.int (lmin n ns))
      | _ => none) = some z := by cases d <;> exact h
    obtain ⟨ys, h1, h⟩ := bind_some h
    split at h
    · rename_i n ns h2
      cases h
      obtain ⟨x, rfl, rx⟩ := one_rep r
      obtain ⟨a, us, rfl, h3, h4⟩ := asR_ok ok rx h1
      rw [intsD_some h2] at h4
      have e := h4.ints_inv
      subst e
      refine .inr ⟨a, n :: ns, rfl, h3, by simp, fun m hm hle => ?_⟩
      obtain ⟨s1, s2, s3⟩ := lmin_spec ns n
      have e : m = lmin n ns := by
        have h5 : m ≤ lmin n ns := by
          rcases s1 with s1 | s1
          · rw [s1]; exact hle n List.mem_cons_self
          · exact hle _ (List.mem_cons_of_mem _ s1)
        have h6 : lmin n ns ≤ m := by
          rcases List.mem_cons.mp hm with rfl | hm
          · exact s2
          · exact s3 m hm
        omega
      subst e
      exact k p _ (.refl p) rfl ok (.int _)
    · cases h
def gAbs (_ : List MO) : List D → Option D
  | [.int i] => some (.int (if i < 0 then -i else i))
  | _ => none
abbrev rAbsA : List V → Hp → VK → Prop := fun xs H Q => ∃ i, xs = [.int i] ∧ Q (.int (if i < 0 then -i else i)) H
theorem rc_abs : RC G rAbsA gAbs := by
  intro p M xs ds z ok r h Q k
  match ds, h with
  | [.int i], h =>
    cases h
    obtain ⟨x, rfl, rx⟩ := one_rep r
    cases rx
    exact ⟨i, rfl, k p _ (.refl p) rfl ok (.int _)⟩

/-! ### sorted -/
def leD (a b : D) : Bool := match a, b with
  | .int i, .int j => decide (i ≤ j)
  | a, b => !dataLt (py b) (py a)
def insD (x : D) : List D → List D
  | [] => [x]
  | y :: ys => if leD x y = true then x :: y :: ys else y :: insD x ys
def srtD : List D → List D
  | [] => []
  | x :: xs => insD x (srtD xs)
def allInt : List D → Bool
  | [] => true
  | .int _ :: ds => allInt ds
  | _ => false
def sortableD : List D → Bool
  | [] => true
  | .tup (_ :: _) :: ds => ds.all fun d => match d with
    | .tup (_ :: _) => true
    | _ => false
  | d :: ds => (d :: ds).all fun d => match py d with
    | .none => false
    | .tuple _ => false
    | _ => true
def srtOk (ds : List D) : Bool := allInt ds || (sortableD ds && ds.all fun a => SeqAt.shaped (py a) && decide ((py a).depth ≤ 30) && ds.all fun b => alike (py a) (py b))
def gSorted (M : List MO) : List D → Option D
  | [d] => (asR M d).bind fun xs => if (srtOk xs && lim xs.length && nls xs) = true then some (.lst (srtD xs)) else none
  | _ => none
theorem leD_eq : leD = dataLe false py := by
  funext a b
  cases a with
  | int i => cases b with
    | int j =>
      show decide (i ≤ j) = !dataLt (.int j) (.int i)
      rw [PySem.W.dataLt_int, PySem.W.not_lt_int]
    | _ => rfl
  | _ => rfl
theorem leD_total : TotalLe leD := by
  rw [leD_eq]
  exact PySem.W.sortLe_total _ false _
theorem insD_perm (x : D) : ∀ ys, (insD x ys).Perm (x :: ys)
  | [] => .refl _
  | y :: ys => by
    rw [insD]
    split
    · exact .refl _
    · exact ((insD_perm x ys).cons y).trans (.swap x y ys)
theorem srtD_perm : ∀ xs, (srtD xs).Perm xs
  | [] => .refl _
  | x :: xs => (insD_perm x (srtD xs)).trans ((srtD_perm xs).cons x)
theorem insD_pw (x : D) : ∀ ys, ys.Pairwise (fun a b => leD a b = true) → (insD x ys).Pairwise (fun a b => leD a b = true)
  | [], _ => by simp [insD]
  | y :: ys, h => by
    rw [insD]
    rw [List.pairwise_cons] at h
    split
    · rename_i hx
      rw [List.pairwise_cons]
      refine ⟨fun z hz => ?_, List.pairwise_cons.mpr h⟩
      rcases List.mem_cons.mp hz with rfl | hz
      · exact hx
      · exact leD_total.trans _ _ _ hx (h.1 z hz)
    · rename_i hx
      rw [List.pairwise_cons]
      refine ⟨fun z hz => ?_, insD_pw x ys h.2⟩
      rcases List.mem_cons.mp ((insD_perm x ys).mem_iff.mp hz) with rfl | hz
      · exact (leD_total.total y z).elim id fun q => absurd q hx
      · exact h.1 z hz
theorem srtD_pw : ∀ xs, (srtD xs).Pairwise (fun a b => leD a b = true)
  | [] => .nil
  | x :: xs => insD_pw x _ (srtD_pw xs)
theorem insD_filter (c x : D) : ∀ ys, ys.Pairwise (fun a b => leD a b = true) → (insD x ys).filter (sameRank leD c) = (x :: ys).filter (sameRank leD c)
  | [], _ => rfl
  | y :: ys, h => by
    rw [insD]
    rw [List.pairwise_cons] at h
    split
    · rfl
    · rename_i hx
      rw [List.filter_cons, insD_filter c x ys h.2]
      by_cases h1 : sameRank leD c y = true
      · have h2 : ¬ sameRank leD c x = true := fun q => by
          simp only [sameRank, Bool.and_eq_true] at h1 q
          exact hx (leD_total.trans _ _ _ q.2 h1.1)
        rw [if_pos h1, List.filter_cons_of_neg h2, List.filter_cons_of_neg h2, List.filter_cons_of_pos h1]
      · rw [if_neg h1]
        by_cases h2 : sameRank leD c x = true
        · rw [List.filter_cons_of_pos h2, List.filter_cons_of_pos h2, List.filter_cons_of_neg h1]
        · rw [List.filter_cons_of_neg h2, List.filter_cons_of_neg h2, List.filter_cons_of_neg h1]
theorem srtD_filter (c : D) : ∀ xs, (srtD xs).filter (sameRank leD c) = xs.filter (sameRank leD c)
  | [] => rfl
  | x :: xs => by
    show (insD x (srtD xs)).filter _ = _
    rw [insD_filter c x _ (srtD_pw xs), List.filter_cons, List.filter_cons, srtD_filter c xs]
theorem srtD_merge (xs : List D) : srtD xs = xs.mergeSort leD := PySem.W.sort_unique leD_total (srtD_pw xs) fun c => srtD_filter c xs
/-- sorted(x) of data -/
def rSortedD (K : PySem.W.Frag) : List V → Hp → VK → Prop := fun vs H Q => ∃ (a : Addr) (S : Hp) (xs : List V) (ds : List D), vs = [.ref a] ∧ SqL K H a xs ∧ (∀ a o, S a = some o → H a = some o) ∧ Reps K S [] xs ds ∧ srtOk ds = true ∧ ds.length ≤ sizeLine ∧
  ∀ (ys : List V) (l : Addr), ys.length = xs.length → Reps K S [] ys (srtD ds) → H l = none → Q (.ref l) (upd H l (.lst ys))
theorem allInt_some : ∀ {ds : List D}, allInt ds = true → ∃ ns : List Int, ds = ns.map D.int
  | [], _ => ⟨[], rfl⟩
  | .int i :: ds, h => by
    obtain ⟨ns, e⟩ := allInt_some (ds := ds) h
    exact ⟨i :: ns, by rw [e]; rfl⟩
theorem eachIs_reps {K : PySem.W.Frag} {S : Hp} {m : List Addr} : ∀ {xs : List V} {us : List Value} {ds : List D}, Reps K S m xs ds → Vals xs us → EachIs (fun u d => ∃ x, RelV x u ∧ Rep K S m x d) us ds
  | _, _, _, .nil, .nil => .nil
  | _, _, _, .cons h r, .cons q t => .cons ⟨_, q, h⟩ (eachIs_reps r t)
theorem reps_eachIs {K : PySem.W.Frag} {S : Hp} {m : List Addr} : ∀ {us : List Value} {ds : List D}, EachIs (fun u d => ∃ x, RelV x u ∧ Rep K S m x d) us ds → ∃ xs, Vals xs us ∧ Reps K S m xs ds
  | _, _, .nil => ⟨[], .nil, .nil⟩
  | _, _, .cons ⟨x, h1, h2⟩ t => by
    obtain ⟨xs, h3, h4⟩ := reps_eachIs t
    exact ⟨x :: xs, .cons h1 h3, .cons h2 h4⟩
theorem eachIs_mem {α β : Type} {R R' : α → β → Prop} : ∀ {as : List α} {bs : List β}, EachIs R as bs → (∀ a b, b ∈ bs → R a b → R' a b) → EachIs R' as bs
  | _, _, .nil, _ => .nil
  | _, _, .cons h t, f => .cons (f _ _ List.mem_cons_self h) (eachIs_mem t fun a b hb r => f a b (List.mem_cons_of_mem _ hb) r)
theorem srtOk_use {ds : List D} (h : srtOk ds = true) : AllAlike (ds.map py) ∧ Sortable (ds.map py) ∧ ∀ d ∈ ds, SeqAt.shaped (py d) = true ∧ (py d).depth ≤ 30 := by
  unfold srtOk at h
  rw [Bool.or_eq_true] at h
  rcases h with h | h
  · obtain ⟨ns, rfl⟩ := allInt_some h
    refine ⟨fun a ha b hb => ?_, .inr fun a ha => ?_, fun d hd => ?_⟩
    · obtain ⟨d, hd, rfl⟩ := List.mem_map.mp ha
      obtain ⟨i, _, rfl⟩ := List.mem_map.mp hd
      obtain ⟨e, he, rfl⟩ := List.mem_map.mp hb
      obtain ⟨j, _, rfl⟩ := List.mem_map.mp he
      rfl
    · obtain ⟨d, hd, rfl⟩ := List.mem_map.mp ha
      obtain ⟨i, _, rfl⟩ := List.mem_map.mp hd
      exact ⟨fun (z : PyData.int i = PyData.none) => (nomatch z), fun xs (z : PyData.int i = PyData.tuple xs) => (nomatch z)⟩
    · obtain ⟨i, _, rfl⟩ := List.mem_map.mp hd
      exact ⟨rfl, Nat.zero_le _⟩
  · rw [Bool.and_eq_true, List.all_eq_true] at h
    obtain ⟨hs, h⟩ := h
    have h' : ∀ d ∈ ds, SeqAt.shaped (py d) = true ∧ (py d).depth ≤ 30 ∧ ∀ e ∈ ds, alike (py d) (py e) = true := fun d hd => by
      have := h d hd
      simp only [Bool.and_eq_true, decide_eq_true_eq, List.all_eq_true] at this
      exact ⟨this.1.1, this.1.2, this.2⟩
    refine ⟨fun a ha b hb => ?_, ?_, fun d hd => ⟨(h' d hd).1, (h' d hd).2.1⟩⟩
    · obtain ⟨d, hd, rfl⟩ := List.mem_map.mp ha
      obtain ⟨e, he, rfl⟩ := List.mem_map.mp hb
      exact (h' d hd).2.2 e he
    · unfold sortableD at hs
      split at hs
      · exact .inr fun a ha => by cases ha
      · refine .inl fun a ha => ?_
        obtain ⟨d, hd, rfl⟩ := List.mem_map.mp ha
        rcases List.mem_cons.mp hd with rfl | hd
        · exact ⟨_, _, rfl⟩
        · have := List.all_eq_true.mp hs d hd
          split at this
          · exact ⟨_, _, rfl⟩
          · cases this
      · refine .inr fun a ha => ?_
        obtain ⟨d, hd, rfl⟩ := List.mem_map.mp ha
        have := List.all_eq_true.mp hs d hd
        split at this
        · cases this
        · cases this
        · rename_i n1 n2
          exact ⟨n1, fun xs z => n2 xs z⟩
theorem cr_sortedD (hu : X.A.units + 64 < cLine) : CallR X (.builtin "sorted") (rSortedD X.K) := by
  intro pins s σ H vs us Q I r h
  obtain ⟨a, S, xs, ds, rfl, hs, hS, hr, hok, hl, q⟩ := h
  obtain ⟨its, rv, pl, _⟩ := I.list hs
  rw [Vals.ref1 r]
  obtain ⟨al, st, sh⟩ := srtOk_use hok
  have e := eachIs_reps hr rv
  refine PySem.W.sorted_data (enc := py) pl.isList e (eachIs_mem e fun u d hd ⟨x, h1, h2⟩ => Dp.reads I _ x u ((h2.mono hS fun _ _ z => z).dp (.inl (sh d hd).1)) h1) al st hl (fun d hd => by have := (sh d hd).2; omega) fun out h1 h2 => ?_
  rw [← leD_eq, ← srtD_merge] at h2
  obtain ⟨ys, h3, h4⟩ := reps_eachIs h2
  obtain ⟨ep, he'⟩ := PyProof.Rows.sortedAll_at s.heap its out.toArray
  have e1 : ys.length = ds.length := by rw [h3.length, h1]
  exact ⟨.ref _, upd H (s.heap.objs.size + 1) (.lst ys), I.laid (t' := s.toks) (fun _ _ => PyProof.Rows.sortedAll_old) (Nat.le_succ _) ⟨by rw [e1]; exact hl, out, ep, h3, he'⟩, rfl, q ys _ (by rw [e1, hr.length]) h4 (I.hok.fresh (Nat.le_succ _))⟩
theorem rc_sorted : RC G (rSortedD G.K) gSorted := by
  intro p M xs ds z ok r h Q k
  match ds, h with
  | [d], h =>
    obtain ⟨ys, h1, h⟩ := bind_some h
    split at h
    · rename_i hs
      cases h
      simp only [Bool.and_eq_true] at hs
      obtain ⟨x, rfl, rx⟩ := one_rep r
      obtain ⟨a, us, rfl, h3, h4⟩ := asR_ok ok rx h1
      refine ⟨a, p.S, us, ys, rfl, h3, ok.sub, h4.of_nl hs.2, hs.1.1, lim_line hs.1.2, fun vs l _ h5 hl => ?_⟩
      have l2 : Le p (p.shd l (.lst vs)) := Le.shd hl (ok.S_none hl)
      exact k (p.shd l (.lst vs)) (.ref l) l2 rfl (ok.shd hl) (.lst upd_same (Reps.mono l2.sh (fun _ _ z => by simp at z) h5))
    · cases h
end
theorem nl_insD (x : D) : ∀ ys : List D, nl x = true → nls ys = true → nls (insD x ys) = true
  | [], h, _ => by simp [insD, nls, h]
  | y :: ys, h, h2 => by
    rw [insD]
    simp only [nls, Bool.and_eq_true] at h2
    split
    · simp [nls, h, h2]
    · simp only [nls, Bool.and_eq_true]
      exact ⟨h2.1, nl_insD x ys h h2.2⟩
theorem nl_srtD : ∀ xs : List D, nls xs = true → nls (srtD xs) = true
  | [], _ => rfl
  | x :: xs, h => by
    simp only [nls, Bool.and_eq_true] at h
    exact nl_insD x _ h.1 (nl_srtD xs h.2)
end BX

set_option Elab.async false
set_option linter.all false
set_option maxRecDepth 100000
set_option maxHeartbeats 2000000
/-! BX6: what is walked, targets, comprehensions. -/
namespace BX
open PySem L2

/-! ### what is walked -/
abbrev FI := FA
/-- J gives the values of ds, one a turn, from q on -/
structure WalksD (G : Gx) (J : It) (q : Ps) (ds : List D) : Prop where
  go : ∀ (i : Nat) (r : Ps) (M : List MO), i < ds.length → Le q r → Ok G r M → J.go i r.H
  stop : ∀ (r : Ps) (M : List MO), Le q r → Ok G r M → J.stop ds.length r.H
  yld : ∀ (i : Nat) (r : Ps) (M : List MO) (x : V) (H' : Hp) (d : D), ds[i]? = some d → Le q r → Ok G r M → J.yld i r.H x H' → ∃ r', Le r r' ∧ r'.z = r.z ∧ r'.H = H' ∧ Ok G r' M ∧ Rep G.K r'.S r'.m x d
def EvI (G : Gx) (wi : TI) (f : FI) : Prop := ∀ (p : Ps) (env : En) (M : List MO) (σ : L2.St) (ds : List D) (M' : List MO), Ok G p M → EnvR G p env σ → f env M = some (ds, M') →
  ∀ R : It → Hp → Prop, (∀ (q : Ps) (J : It), Le p q → q.z = p.z → Ok G q M' → WalksD G J q ds → R J q.H) → wi σ p.H R
structure SI (X : Cx) (tg iter : Expr) (f : FI) : Prop where
  ex : ∃ wi, PI X tg iter wi ∧ EvI (gx X) wi f

section
variable {X : Cx} {G : Gx} {tg e a b c : Expr} {pos : Pos} {fa fb fc : FE}
def iSeqT (K : PySem.W.Frag) (tl : TE) : TI := fun σ H R => tl σ H fun x H1 => ∃ a, x = .ref a ∧ (((∃ xs, SqL K H1 a xs) ∧ R (Itl K a) H1) ∨ ((∃ xs, SqT K H1 a xs) ∧ R (Itt K a) H1))
theorem pi_seq {l : Expr} {tl : TE} (hl : PE X l tl) : PI X tg l (iSeqT X.K tl) := by
  refine ⟨fun pins s σ H R I h => ?_⟩
  refine thn (hl.run pins s σ H _ I h) fun v s1 ⟨x, H1, I1, r1, q1⟩ => ?_
  obtain ⟨a, e, q1⟩ := q1
  subst e
  cases r1
  rcases q1 with ⟨⟨xs, hq⟩, q⟩ | ⟨⟨xs, hq⟩, q⟩
  · obtain ⟨its, rv, p, hz⟩ := I1.list hq
    refine wpAny_pyIter_list p.isList ?_
    refine ⟨s1.heap.objs.size, [s1.heap.objs.size], _, _, H1, rfl, I1.kept (t' := s1.toks) fun b o e => Heap.get?_push_of_some _ e, turn_list a _, ⟨_, Heap.get?_push_size _ rfl, rfl, rfl⟩, fun b hb => ?_, q⟩
    have e : b = s1.heap.objs.size := by simpa using hb
    subst e
    exact I1.fpOk (Nat.le_refl _) (I1.hok.fresh (Nat.le_refl _))
  · obtain ⟨its, rv, p, hz⟩ := I1.tuple hq
    refine wpAny_pyIter_tuple (show s1.heap.IsTuple a its.toArray from p) ?_
    refine ⟨s1.heap.objs.size, [s1.heap.objs.size], _, _, H1, rfl, I1.kept (t' := s1.toks) fun b o e => Heap.get?_push_of_some _ e, turn_tuple a _, ⟨_, Heap.get?_push_size _ rfl, rfl, rfl⟩, fun b hb => ?_, q⟩
    have e : b = s1.heap.objs.size := by simpa using hb
    subst e
    exact I1.fpOk (Nat.le_refl _) (I1.hok.fresh (Nat.le_refl _))
/-- what is not changed any more, item by item -/
def asF : D → Option (List D)
  | .lst xs => some xs
  | .tup xs => some xs
  | .frz xs => some xs
  | _ => none
def iSeq (a : FE) (env : En) (M : List MO) : Option (List D × List MO) := (a env M).bind fun r => (asF r.1).map fun ds => (ds, r.2)
theorem walks_l {a : Addr} {xs : List V} {ds : List D} {q : Ps} (h : SqL G.K q.S a xs) (r : Reps G.K q.S q.m xs ds) : WalksD G (Itl G.K a) q ds where
  go := fun i w M hi l ok => ⟨xs, xs[i]'(by rw [r.length]; exact hi), sqL_mono ok.sub (sqL_mono l.sh h), List.getElem?_eq_getElem _⟩
  stop := fun w M l ok => ⟨xs, sqL_mono ok.sub (sqL_mono l.sh h), by rw [r.length]; exact Nat.le_refl _⟩
  yld := fun i w M x H' d hd l ok y => by
    obtain ⟨e, y⟩ := y
    obtain ⟨x', h1, h2⟩ := r.get hd
    have := y xs (sqL_mono ok.sub (sqL_mono l.sh h))
    rw [h1] at this
    cases this
    exact ⟨w, .refl w, rfl, e.symm, ok, l.rep h2⟩
theorem walks_t {a : Addr} {xs : List V} {ds : List D} {q : Ps} (h : SqT G.K q.S a xs) (r : Reps G.K q.S q.m xs ds) : WalksD G (Itt G.K a) q ds where
  go := fun i w M hi l ok => ⟨xs, xs[i]'(by rw [r.length]; exact hi), sqT_mono ok.sub (sqT_mono l.sh h), List.getElem?_eq_getElem _⟩
  stop := fun w M l ok => ⟨xs, sqT_mono ok.sub (sqT_mono l.sh h), by rw [r.length]; exact Nat.le_refl _⟩
  yld := fun i w M x H' d hd l ok y => by
    obtain ⟨e, y⟩ := y
    obtain ⟨x', h1, h2⟩ := r.get hd
    have := y xs (sqT_mono ok.sub (sqT_mono l.sh h))
    rw [h1] at this
    cases this
    exact ⟨w, .refl w, rfl, e.symm, ok, l.rep h2⟩
theorem si_seq (h : SE X a fa) : SI X tg a (iSeq fa) := by
  obtain ⟨t, pt, vt⟩ := h.ex
  refine ⟨_, pi_seq pt, fun p env M σ ds M' ok er h Q k => ?_⟩
  obtain ⟨⟨d1, M1⟩, e1, h⟩ := bind_some h
  obtain ⟨ds', e2, h⟩ := map_some h
  cases h
  refine vt p env M σ d1 _ ok er e1 _ fun q x l m ok1 x1 => ?_
  cases x1 with
  | @lst a us ds h1 h2 => cases e2; exact ⟨a, rfl, .inl ⟨⟨us, SqL.of (ok1.sub _ _ h1)⟩, k q _ l m ok1 (walks_l (SqL.of h1) h2)⟩⟩
  | @tup a us ds h1 h2 => cases e2; exact ⟨a, rfl, .inr ⟨⟨us, SqT.of (ok1.sub _ _ h1)⟩, k q _ l m ok1 (walks_t (SqT.of h1) h2)⟩⟩
  | @frz a us ds h1 h2 => cases e2; exact ⟨a, rfl, .inl ⟨⟨us, sqL_mono ok1.sub h1⟩, k q _ l m ok1 (walks_l h1 h2)⟩⟩
  | _ => cases e2

/-! ### ranges -/
def upFrom (lo : Int) : Nat → List D
  | 0 => []
  | n + 1 => .int lo :: upFrom (lo + 1) n
theorem upFrom_length : ∀ (n : Nat) (lo : Int), (upFrom lo n).length = n
  | 0, _ => rfl
  | n + 1, lo => by rw [upFrom, List.length_cons, upFrom_length n]
theorem upFrom_get : ∀ (n : Nat) (lo : Int) (i : Nat) (d : D), (upFrom lo n)[i]? = some d → d = .int (lo + (i : Nat))
  | 0, _, _, _, h => by simp [upFrom] at h
  | n + 1, lo, 0, d, h => by
    simp only [upFrom, List.getElem?_cons_zero, Option.some.injEq] at h
    rw [← h]
    simp
  | n + 1, lo, i + 1, d, h => by
    simp only [upFrom, List.getElem?_cons_succ] at h
    rw [upFrom_get n (lo + 1) i d h]
    congr 1
    omega
theorem walks_up {lo : Int} {n : Nat} {q : Ps} : WalksD G (Itr lo n) q (upFrom lo n) where
  go := fun i w M hi l ok => by rw [upFrom_length] at hi; exact hi
  stop := fun w M l ok => by rw [upFrom_length]; exact Nat.le_refl _
  yld := fun i w M x H' d hd l ok y => by
    obtain ⟨e, y⟩ := y
    subst y
    rw [upFrom_get _ _ _ _ hd]
    exact ⟨w, .refl w, rfl, e.symm, ok, .int _⟩
def smallI (i : Int) : Bool := decide (-1000000 ≤ i) && decide (i ≤ 1000000)
theorem smallI_use {i : Int} (h : smallI i = true) : -1000000 ≤ i ∧ i ≤ 1000000 := by
  simpa [smallI] using h
def iRange1 (a : FE) (env : En) (M : List MO) : Option (List D × List MO) := (a env M).bind fun r => match r.1 with
  | .int n => if smallI n = true then some (upFrom 0 n.toNat, r.2) else none
  | _ => none
def iRange2 (a b : FE) (env : En) (M : List MO) : Option (List D × List MO) := (a env M).bind fun r => (b env r.2).bind fun s => match r.1, s.1 with
  | .int i, .int j => if (smallI i && smallI j) = true then some (upFrom i (j - i).toNat, s.2) else none
  | _, _ => none
theorem si_range1 {q : Pos} (ha : SE X a fa) (hg : Gl X "range") (hm : X.mg "range" = none) (hs : starEach [a] X.env = [(false, eval a X.env)] := by rfl) (hs' : starEach [a] X.env = (false, eval a X.env) :: starEach [] X.env := by rfl) : SI X tg (.Call (.Name "range" q) [a] [] pos) (iRange1 fa) := by
  obtain ⟨t, pt, vt⟩ := ha.ex
  refine ⟨_, pi_range1 hg hm (pa_cons pt pa_nil hs') hs, fun p env M σ ds M' ok er h R k => ?_⟩
  obtain ⟨⟨d1, M1⟩, e1, h⟩ := bind_some h
  cases d1 with
  | int n =>
    simp only at h
    split at h
    · rename_i hn
      cases h
      have hn := smallI_use hn
      refine vt p env M σ _ _ ok er e1 _ fun q x l m ok1 x1 => ?_
      cases x1
      exact ⟨n, rfl, by omega, by omega, k q _ l m ok1 walks_up⟩
    · cases h
  | _ => cases h
theorem si_range2 {q : Pos} (ha : SE X a fa) (hb : SE X b fb) (hg : Gl X "range") (hm : X.mg "range" = none) (hs : starEach [a, b] X.env = [(false, eval a X.env), (false, eval b X.env)] := by rfl) (hs2 : starEach [b] X.env = [(false, eval b X.env)] := by rfl)
    (hs3 : starEach [a, b] X.env = (false, eval a X.env) :: starEach [b] X.env := by rfl) (hs4 : starEach [b] X.env = (false, eval b X.env) :: starEach [] X.env := by rfl) : SI X tg (.Call (.Name "range" q) [a, b] [] pos) (iRange2 fa fb) := by
  obtain ⟨t, pt, vt⟩ := ha.ex
  obtain ⟨u, pu, vu⟩ := hb.ex
  refine ⟨_, pi_range2 hg hm (pa_cons pt (pa_cons pu pa_nil hs4) hs3) hs hs2, fun p env M σ ds M' ok er h R k => ?_⟩
  obtain ⟨⟨d1, M1⟩, e1, h⟩ := bind_some h
  obtain ⟨⟨d2, M2⟩, e2, h⟩ := bind_some h
  cases d1 with
  | int i =>
    cases d2 with
    | int j =>
      simp only at h
      split at h
      · rename_i hn
        cases h
        rw [Bool.and_eq_true] at hn
        have h1 := smallI_use hn.1
        have h2 := smallI_use hn.2
        refine vt p env M σ _ _ ok er e1 _ fun q x l m ok1 x1 => ?_
        refine vu q env M1 σ _ _ ok1 (er.mono l) e2 _ fun q2 y l2 m2 ok2 y2 => ?_
        cases x1
        cases y2
        exact ⟨i, j, rfl, ⟨by omega, by omega, by omega, by omega⟩, k q2 _ (l.trans l2) (m2.trans m) ok2 walks_up⟩
      · cases h
    | _ => cases h
  | _ => cases h
/-- a range downwards by ones -/
def downFrom (lo : Int) : Nat → List D
  | 0 => []
  | n + 1 => .int lo :: downFrom (lo - 1) n
theorem downFrom_length : ∀ (n : Nat) (lo : Int), (downFrom lo n).length = n
  | 0, _ => rfl
  | n + 1, lo => by rw [downFrom, List.length_cons, downFrom_length n]
theorem downFrom_get : ∀ (n : Nat) (lo : Int) (i : Nat) (d : D), (downFrom lo n)[i]? = some d → d = .int (lo + (i : Nat) * (-1))
  | 0, _, _, _, h => by simp [downFrom] at h
  | n + 1, lo, 0, d, h => by
    simp only [downFrom, List.getElem?_cons_zero, Option.some.injEq] at h
    rw [← h]
    simp
  | n + 1, lo, i + 1, d, h => by
    simp only [downFrom, List.getElem?_cons_succ] at h
    rw [downFrom_get n (lo - 1) i d h]
    congr 1
    omega
theorem walks_down {lo : Int} {n : Nat} {q : Ps} : WalksD G (Itc lo (-1) n) q (downFrom lo n) where
  go := fun i w M hi l ok => by rw [downFrom_length] at hi; exact hi
  stop := fun w M l ok => by rw [downFrom_length]; exact Nat.le_refl _
  yld := fun i w M x H' d hd l ok y => by
    obtain ⟨e, y⟩ := y
    subst y
    rw [downFrom_get _ _ _ _ hd]
    exact ⟨w, .refl w, rfl, e.symm, ok, .int _⟩
def iRange3 (a b c : FE) (env : En) (M : List MO) : Option (List D × List MO) := (a env M).bind fun r => (b env r.2).bind fun s => (c env s.2).bind fun t => match r.1, s.1, t.1 with
  | .int i, .int j, .int k => if (smallI i && smallI j && decide (k = -1)) = true then some (downFrom i (i - j).toNat, t.2) else none
  | _, _, _ => none
theorem si_range3 {q : Pos} (ha : SE X a fa) (hb : SE X b fb) (hc : SE X c fc) (hg : Gl X "range") (hm : X.mg "range" = none) (hs : starEach [a, b, c] X.env = (false, eval a X.env) :: starEach [b, c] X.env := by rfl) (hpl : (backTo pos (starEach [b, c] X.env)).any (·.1) = false := by rfl)
    (hs2 : starEach [b, c] X.env = (false, eval b X.env) :: starEach [c] X.env := by rfl) (hs3 : starEach [c] X.env = (false, eval c X.env) :: starEach [] X.env := by rfl) : SI X tg (.Call (.Name "range" q) [a, b, c] [] pos) (iRange3 fa fb fc) := by
  obtain ⟨t, pt, vt⟩ := ha.ex
  obtain ⟨u, pu, vu⟩ := hb.ex
  obtain ⟨w, pw, vw⟩ := hc.ex
  refine ⟨_, pi_range3 hg hm (pa_cons pt (pa_cons pu (pa_cons pw pa_nil hs3) hs2) hs) hs hpl, fun p env M σ ds M' ok er h R k => ?_⟩
  obtain ⟨⟨d1, M1⟩, e1, h⟩ := bind_some h
  obtain ⟨⟨d2, M2⟩, e2, h⟩ := bind_some h
  obtain ⟨⟨d3, M3⟩, e3, h⟩ := bind_some h
  cases d1 with
  | int i =>
    cases d2 with
    | int j =>
      cases d3 with
      | int c =>
        simp only at h
        split at h
        · rename_i hn
          cases h
          rw [Bool.and_eq_true, Bool.and_eq_true, decide_eq_true_eq] at hn
          have h1 := smallI_use hn.1.1
          have h2 := smallI_use hn.1.2
          have h3 := hn.2
          subst h3
          refine vt p env M σ _ _ ok er e1 _ fun q x l m ok1 x1 => ?_
          refine vu q env M1 σ _ _ ok1 (er.mono l) e2 _ fun q2 y l2 m2 ok2 y2 => ?_
          refine vw q2 env M2 σ _ _ ok2 (er.mono (l.trans l2)) e3 _ fun q3 z l3 m3 ok3 z3 => ?_
          cases x1
          cases y2
          cases z3
          exact ⟨i, j, -1, (i - j).toNat, rfl, RgC.neg (by omega) (by omega) (by omega) (by omega), k q3 _ ((l.trans l2).trans l3) (m3.trans (m2.trans m)) ok3 walks_down⟩
        · cases h
      | _ => cases h
    | _ => cases h
  | _ => cases h

/-! ### enumerate -/
def enumF (i : Nat) : List D → List D
  | [] => []
  | d :: ds => .tup [.int (i : Nat), d] :: enumF (i + 1) ds
theorem enumF_length : ∀ (ds : List D) (i : Nat), (enumF i ds).length = ds.length
  | [], _ => rfl
  | d :: ds, i => by rw [enumF, List.length_cons, List.length_cons, enumF_length ds]
theorem enumF_get : ∀ (ds : List D) (j i : Nat) (d : D), (enumF j ds)[i]? = some d → ∃ e, ds[i]? = some e ∧ d = .tup [.int ((j + i : Nat) : Int), e]
  | [], _, _, _, h => by simp [enumF] at h
  | x :: ds, j, 0, d, h => by
    simp only [enumF, List.getElem?_cons_zero, Option.some.injEq] at h
    exact ⟨x, rfl, h.symm⟩
  | x :: ds, j, i + 1, d, h => by
    simp only [enumF, List.getElem?_cons_succ] at h
    obtain ⟨e, h1, h2⟩ := enumF_get ds (j + 1) i d h
    exact ⟨e, by simpa using h1, by rw [h2, show j + 1 + i = j + (i + 1) by omega]⟩
def asFL : D → Option (List D)
  | .lst xs => some xs
  | .frz xs => some xs
  | _ => none
def iEnumD (a : FE) (env : En) (M : List MO) : Option (List D × List MO) := (a env M).bind fun r => (asFL r.1).map fun ds => (enumF 0 ds, r.2)
theorem walks_e {a : Addr} {xs : List V} {ds : List D} {q : Ps} (h : SqL G.K q.S a xs) (r : Reps G.K q.S q.m xs ds) : WalksD G (Ite G.K a) q (enumF 0 ds) where
  go := fun i w M hi l ok => ⟨xs, xs[i]'(by rw [r.length]; rw [enumF_length] at hi; exact hi), sqL_mono ok.sub (sqL_mono l.sh h), List.getElem?_eq_getElem _⟩
  stop := fun w M l ok => ⟨xs, sqL_mono ok.sub (sqL_mono l.sh h), by rw [r.length, enumF_length]; exact Nat.le_refl _⟩
  yld := fun i w M x H' d hd l ok y => by
    obtain ⟨T, x1, e1, hT, e2, y⟩ := y
    obtain ⟨d1, h1, h2⟩ := enumF_get _ _ _ _ hd
    obtain ⟨x', h3, h4⟩ := r.get h1
    have := y xs (sqL_mono ok.sub (sqL_mono l.sh h))
    rw [h3] at this
    cases this
    subst e1 e2 h2
    refine ⟨w.shd T (.tup [.int (i : Nat), x1]), Le.shd hT (ok.S_none hT), rfl, rfl, ok.shd hT, .tup upd_same (.cons ?_ (.cons ?_ .nil))⟩
    · rw [show 0 + i = i by omega]
      exact .int _
    · exact ((l.trans (Le.shd hT (ok.S_none hT))).rep h4)
theorem si_enum {q tpos : Pos} {elts : List Expr} {kk : Nat} (ha : SE X a fa) (hg : Gl X "enumerate") (hm : X.mg "enumerate" = none) (hs : starEach [a] X.env = [(false, eval a X.env)] := by rfl) (hs' : starEach [a] X.env = (false, eval a X.env) :: starEach [] X.env := by rfl) :
    SI X (.Tuple elts kk tpos) (.Call (.Name "enumerate" q) [a] [] pos) (iEnumD fa) := by
  obtain ⟨t, pt, vt⟩ := ha.ex
  refine ⟨_, pi_enum hg hm (pa_cons pt pa_nil hs') hs, fun p env M σ ds M' ok er h R k => ?_⟩
  obtain ⟨⟨d1, M1⟩, e1, h⟩ := bind_some h
  obtain ⟨ds', e2, h⟩ := map_some h
  cases h
  refine vt p env M σ d1 _ ok er e1 _ fun q x l m ok1 x1 => ?_
  cases x1 with
  | @lst a us ds h1 h2 => cases e2; exact ⟨a, us, rfl, SqL.of (ok1.sub _ _ h1), k q _ l m ok1 (walks_e (SqL.of h1) h2)⟩
  | @frz a us ds h1 h2 => cases e2; exact ⟨a, us, rfl, sqL_mono ok1.sub h1, k q _ l m ok1 (walks_e h1 h2)⟩
  | _ => cases e2
end

/-! ### targets -/
inductive Pat where
  | nm (i : Nat)
  | tp (is : List Nat)
  | ls (is : List Nat)
  | tq (i : Nat) (is : List Nat)
def setAll : List Nat → List D → En → En
  | i :: is, d :: ds, env => setAll is ds (env.set i (some d))
  | _, _, env => env
def bindP : Pat → D → En → Option En
  | .nm i, d, env => some (env.set i (some d))
  | .tp is, .tup ds, env => if is.length = ds.length then some (setAll is ds env) else none
  | .ls is, .lst ds, env => if is.length = ds.length then some (setAll is ds env) else none
  | .tq i is, .tup [d, .tup ds], env => if is.length = ds.length then some (setAll is ds (env.set i (some d))) else none
  | _, _, _ => none
def Pat.slots : Pat → List Nat
  | .nm i => [i]
  | .tp is => is
  | .ls is => is
  | .tq i is => i :: is
def setV : List Nat → List V → L2.St → L2.St
  | i :: is, d :: ds, env => setV is ds (env.set i (some d))
  | _, _, env => env
structure SG (X : Cx) (target : Expr) (pt : Pat) : Prop where
  ex : ∃ g, PG X target g ∧ ∀ (p : Ps) (M : List MO) (x : V) (d : D) (env env' : En) (σ : L2.St), Ok (gx X) p M → EnvR (gx X) p env σ → Rep X.K p.S p.m x d → bindP pt d env = some env' →
    ∀ Q : L2.St → Hp → Prop, (∀ σ', EnvR (gx X) p env' σ' → (∀ vs : List Nat, (∀ i ∈ pt.slots, i ∈ vs) → wipe σ' vs = wipe σ vs) → Q σ' p.H) → g x σ p.H Q
theorem wipe_get {σ : L2.St} {i : Nat} : ∀ {vs : List Nat}, i ∈ vs → i < σ.length → (wipe σ vs)[i]? = some none
  | v :: vs, h, hl => by
    unfold wipe
    by_cases hi : v = i
    · subst hi
      rw [List.getElem?_set_self (by rw [wipe_length]; exact hl)]
    · rw [List.getElem?_set_ne hi]
      rcases List.mem_cons.mp h with e | e
      · exact absurd e.symm hi
      · exact wipe_get e hl
theorem wipe_set {σ : L2.St} {i : Nat} {v : Option V} {vs : List Nat} (h : i ∈ vs) : wipe (σ.set i v) vs = wipe σ vs := by
  apply List.ext_getElem?
  intro j
  by_cases hj : j ∈ vs
  · by_cases hl : j < σ.length
    · rw [wipe_get hj hl, wipe_get hj (by rw [List.length_set]; exact hl)]
    · rw [List.getElem?_eq_none (by rw [wipe_length, List.length_set]; omega), List.getElem?_eq_none (by rw [wipe_length]; omega)]
  · rw [wipe_out hj, wipe_out hj, List.getElem?_set_ne (fun (e : i = j) => hj (by rw [← e]; exact h))]
section
variable {X : Cx} {pos : Pos}
theorem sg_name {i : Nat} {x : Str} (hN : X.N.Nodup) (hi : X.N[i]? = some x := by rfl) (hx : Loc X.env.scope x := by first | exact .inl rfl | exact .inr rfl) (hf : X.fn x = true ∨ X.env.scope.names.lookup x = some .local := by first | exact .inl rfl | exact .inr rfl | assumption) : SG X (.Name x pos) (.nm i) := by
  refine ⟨_, pg_name hN hi hx hf, fun p M x d env env' σ ok er r h Q k => ?_⟩
  cases h
  exact k _ (er.set r) fun vs hv => wipe_set (hv i List.mem_cons_self)
/-- a tuple of names -/
structure SGs (X : Cx) (es : List Expr) (is : List Nat) : Prop where
  ex : ∃ t, PGs X es t ∧ es.length = is.length ∧ ∀ (p : Ps) (xs : List V) (ds : List D) (env : En) (σ : L2.St), EnvR (gx X) p env σ → Reps X.K p.S p.m xs ds → is.length = ds.length →
    ∀ Q : L2.St → Hp → Prop, (∀ σ', EnvR (gx X) p (setAll is ds env) σ' → (∀ vs : List Nat, (∀ i ∈ is, i ∈ vs) → wipe σ' vs = wipe σ vs) → Q σ' p.H) → t xs σ p.H Q
theorem sgs_nil : SGs X [] [] := by
  refine ⟨_, pgs_nil, rfl, fun p xs ds env σ er r hl Q k => ?_⟩
  cases r with
  | nil => exact ⟨rfl, k σ er fun _ _ => rfl⟩
  | cons _ _ => simp at hl
theorem sgs_cons {i : Nat} {x : Str} {es : List Expr} {is : List Nat} {pos' : Pos} (hN : X.N.Nodup) (hr : SGs X es is) (hi : X.N[i]? = some x := by rfl) (hx : Loc X.env.scope x := by first | exact .inl rfl | exact .inr rfl) (hf : X.fn x = true ∨ X.env.scope.names.lookup x = some .local := by first | exact .inl rfl | exact .inr rfl | assumption) :
    SGs X (.Name x pos' :: es) (i :: is) := by
  obtain ⟨t, pt, hl0, ht⟩ := hr.ex
  refine ⟨_, pgs_cons (pg_name hN hi hx hf) pt, by rw [List.length_cons, List.length_cons, hl0], fun p xs ds env σ er r hl Q k => ?_⟩
  cases r with
  | nil => simp at hl
  | @cons v vs d ds h r =>
    refine ⟨v, vs, rfl, ?_⟩
    refine ht p vs ds (env.set i (some d)) (σ.set i (some v)) (er.set h) r (by simpa using hl) _ fun σ' e1 e2 => ?_
    exact k σ' e1 fun us hu => (e2 us fun j hj => hu j (List.mem_cons_of_mem _ hj)).trans (wipe_set (hu i List.mem_cons_self))
theorem sg_tup {es : List Expr} {k : Nat} {is : List Nat} (hc : X.calm = true) (h : SGs X es is) (hn : (assignEach es X.env).length = es.length := by rfl) (hst : (assignEach es X.env).findIdx? (·.1) = none := by rfl) : SG X (.Tuple es k pos) (.tp is) := by
  obtain ⟨t, pt, hl, ht⟩ := h.ex
  refine ⟨_, pg_tup (n := es.length) hc pt hn hst, fun p M x d env env' σ ok er r h Q k => ?_⟩
  cases r with
  | @tup a xs ds h1 h2 =>
    simp only [bindP] at h
    split at h
    · rename_i hq
      cases h
      exact ⟨a, xs, rfl, SqT.of (ok.sub _ _ h1), by rw [h2.length, hl]; exact hq.symm, ht p xs ds env σ er h2 hq _ k⟩
    · cases h
  | _ => cases h
/-- a list's items to names -/
theorem sg_lst {es : List Expr} {k : Nat} {is : List Nat} (hc : X.calm = true) (h : SGs X es is) (hn : (assignEach es X.env).length = es.length := by rfl) (hst : (assignEach es X.env).findIdx? (·.1) = none := by rfl) : SG X (.Tuple es k pos) (.ls is) := by
  obtain ⟨t, pt, hl, ht⟩ := h.ex
  refine ⟨_, pg_lst (n := es.length) hc pt hn hst, fun p M x d env env' σ ok er r h Q k => ?_⟩
  cases r with
  | @lst a xs ds h1 h2 =>
    simp only [bindP] at h
    split at h
    · rename_i hq
      cases h
      exact ⟨a, xs, rfl, SqL.of (ok.sub _ _ h1), by rw [h2.length, hl]; exact hq.symm, ht p xs ds env σ er h2 hq _ k⟩
    · cases h
  | _ => cases h
/-- name, (names) -/
theorem sg_tq {ts : List Expr} {k k2 : Nat} {i : Nat} {x : Str} {is : List Nat} {p1 p2 : Pos} (hc : X.calm = true) (hN : X.N.Nodup) (h : SGs X ts is) (hi : X.N[i]? = some x := by rfl) (hx : Loc X.env.scope x := by first | exact .inl rfl | exact .inr rfl) (hf : X.fn x = true ∨ X.env.scope.names.lookup x = some .local := by first | exact .inl rfl | exact .inr rfl | assumption)
    (hn : (assignEach ts X.env).length = ts.length := by rfl) (hst : (assignEach ts X.env).findIdx? (·.1) = none := by rfl) (hn2 : (assignEach [.Name x p1, .Tuple ts k2 p2] X.env).length = 2 := by rfl) (hst2 : (assignEach [.Name x p1, .Tuple ts k2 p2] X.env).findIdx? (·.1) = none := by rfl)
    (hs1 : (assignEach [.Name x p1, .Tuple ts k2 p2] X.env).map (·.2) = assign (.Name x p1) X.env :: (assignEach [.Tuple ts k2 p2] X.env).map (·.2) := by rfl) (hs2 : (assignEach [.Tuple ts k2 p2] X.env).map (·.2) = assign (.Tuple ts k2 p2) X.env :: (assignEach [] X.env).map (·.2) := by rfl) : SG X (.Tuple [.Name x p1, .Tuple ts k2 p2] k pos) (.tq i is) := by
  obtain ⟨t, pt, hl, ht⟩ := h.ex
  refine ⟨_, pg_tup (n := 2) hc (pgs_cons (pg_name hN hi hx hf) (pgs_cons (pg_tup (n := ts.length) hc pt hn hst) pgs_nil hs2) hs1) hn2 hst2, fun p M v d env env' σ ok er r h Q kk => ?_⟩
  cases r with
  | @tup a xs ds h1 h2 =>
    match ds, h2, h with
    | [d1, .tup ds2], .cons (v := v1) r1 (.cons (v := v2) r2 .nil), h =>
      simp only [bindP] at h
      split at h
      · rename_i hq
        cases h
        cases r2 with
        | @tup b ys _ h3 h4 =>
          refine ⟨a, [v1, .ref b], rfl, SqT.of (ok.sub _ _ h1), rfl, v1, [.ref b], rfl, .ref b, [], rfl, b, ys, rfl, SqT.of (ok.sub _ _ h3), by rw [h4.length, hl]; exact hq.symm, ?_⟩
          refine ht p ys ds2 (env.set i (some d1)) (σ.set i (some v1)) (er.set r1) h4 hq _ fun σ' e1 e2 => ⟨rfl, ?_⟩
          exact kk σ' e1 fun us hu => (e2 us fun j hj => hu j (List.mem_cons_of_mem _ hj)).trans (wipe_set (hu i List.mem_cons_self))
      · cases h
  | _ => cases h
end
end BX

set_option Elab.async false
set_option linter.all false
set_option maxRecDepth 100000
set_option maxHeartbeats 2000000
/-! BX7: comprehensions. -/
namespace BX
open PySem L2

def wipeE (env : En) : List Nat → En
  | [] => env
  | v :: vs => (wipeE env vs).set v none
def compL (pt : Pat) (ft : FT) (fe : FE) (env : En) : List D → List MO → Option (List D × List MO)
  | [], M => some ([], M)
  | d :: ds, M => (bindP pt d env).bind fun e1 => (ft e1 M).bind fun r => if r.1 = true then (fe e1 r.2).bind fun s => (compL pt ft fe env ds s.2).map fun t => (s.1 :: t.1, t.2) else compL pt ft fe env ds r.2
def eComp (src : FI) (vs : List Nat) (pt : Pat) (ft : FT) (fe : FE) (env : En) (M : List MO) : Option (D × List MO) := (src env M).bind fun r => if lim r.1.length = true then (compL pt ft fe (wipeE env vs) r.1 r.2).map fun t => (.lst t.1, t.2) else none
def tYesF (_ : En) (M : List MO) : Option (Bool × List MO) := some (true, M)

theorem MOR.congr {G : Gx} {p q : Ps} {a : Addr} {o : MO} (hS : q.S = p.S) (hm : q.m = p.m) (hH : ∀ o, p.H a = some o → q.H a = some o) (r : MOR G p a o) : MOR G q a o := by
  cases o with
  | lst ds =>
    obtain ⟨xs, h1, h2⟩ := r
    exact ⟨xs, hH _ h1, by rw [hS, hm]; exact h2⟩
  | dct kvs => exact DOk.mono (fun a o h => by rw [hS]; exact h) hH r
  | tbl x =>
    obtain ⟨h0, ps, h1, h2, h3⟩ := r
    exact ⟨h0, ps, hH _ h1, h2, fun pos cv z => let ⟨c, e1, e2⟩ := h3 pos cv z; ⟨c, e1, by rw [hS]; exact e2⟩⟩
  | ins x fs =>
    obtain ⟨C, dx, vs, h1, h2, h3⟩ := r
    exact ⟨C, dx, vs, hH _ h1, h2, by rw [hS, hm]; exact h3⟩
section
variable {G : Gx} {p q r : Ps} {M : List MO} {P : Addr} {o : HO}
theorem Le.pend (hn : p.H P = none) : Le p (p.put P o) := by
  refine ⟨⟨[], by simp [Ps.put]⟩, fun b u h => h, fun b u h1 h2 => h1, fun b u h _ => ?_, fun b u h => ⟨u, ?_⟩, fun b h => .inl h⟩
  · show upd p.H P o b = some u
    rw [upd_ne (ne_of_none h hn)]; exact h
  · show upd p.H P o b = some u
    rw [upd_ne (ne_of_none h hn)]; exact h
theorem Le.repend (l : Le q r) (hn : q.H P = none) : Le q (r.put P o) := by
  refine ⟨l.m, l.sh, l.nw, fun b u h hb => ?_, fun b u h => ?_, l.nm⟩
  · show upd r.H P o b = some u
    rw [upd_ne (ne_of_none h hn)]; exact l.fr b u h hb
  · obtain ⟨u', h'⟩ := l.dm b u h
    refine ⟨u', ?_⟩
    show upd r.H P o b = some u'
    rw [upd_ne (ne_of_none h hn)]; exact h'
theorem Le.nin {a : Addr} {u : HO} (l : Le p q) (h : p.H a = some u) (hm : a ∉ p.m) : a ∉ q.m := fun z => by
  rcases l.nm a z with z | z
  · exact hm z
  · rw [h] at z; cases z
theorem Ok.pend (ok : Ok G p M) (hs : p.S P = none) (hm : P ∉ p.m) : Ok G (p.put P o) M := by
  refine ⟨fun b u h => ?_, ok.nd, ok.apart, ok.len, fun k b u e1 e2 => ?_⟩
  · have h' : p.S b = some u := h
    show upd p.H P o b = some u
    rw [upd_ne (ne_of_none h' hs)]; exact ok.sub _ _ h'
  · have e1' : p.m[k]? = some b := e1
    have hb : b ≠ P := fun e => hm (by rw [← e]; exact List.mem_of_getElem? e1')
    refine MOR.congr (p := p) (q := p.put P o) rfl rfl (fun v hv => ?_) (ok.at_ k b u e1' e2)
    show upd p.H P o b = some v
    rw [upd_ne hb]; exact hv
/-- what was pending stands from here on -/
def Ps.fix (p : Ps) (P : Addr) (o : HO) : Ps := ⟨p.m, upd p.S P o, p.H⟩
theorem Le.fix (ok : Ok G q M) (l : Le q r) (hn : q.H P = none) : Le q (r.fix P o) := by
  have hs : q.S P = none := ok.S_none hn
  refine ⟨l.m, fun b u h => ?_, fun b u h1 h2 => ?_, l.fr, l.dm, l.nm⟩
  · show upd r.S P o b = some u
    rw [upd_ne (ne_of_none h hs)]; exact l.sh _ _ h
  · show upd r.S P o b = none
    rw [upd_ne (ne_of_none h2 hn)]; exact l.nw b u h1 h2
theorem Ok.fix (ok : Ok G r M) (hs : r.S P = none) (hm : P ∉ r.m) (hp : r.H P = some o) : Ok G (r.fix P o) M := by
  have e : ∀ a u, r.S a = some u → upd r.S P o a = some u := fun a u h => by rw [upd_ne (ne_of_none h hs)]; exact h
  refine ⟨fun b u h => ?_, ok.nd, fun b hb => ?_, ok.len, fun k b u e1 e2 => ?_⟩
  · have h' : upd r.S P o b = some u := h
    by_cases hb : b = P
    · subst hb
      rw [upd_same] at h'
      cases h'
      exact hp
    · rw [upd_ne hb] at h'
      exact ok.sub _ _ h'
  · show upd r.S P o b = none
    rw [upd_ne (fun e => hm (by rw [← e]; exact hb))]
    exact ok.apart b hb
  · have := ok.at_ k b u e1 e2
    cases u with
    | lst ds =>
      obtain ⟨xs, h1, h2⟩ := this
      exact ⟨xs, h1, h2.mono e fun _ _ z => z⟩
    | dct kvs => exact DOk.mono e (fun o z => z) this
    | tbl x =>
      obtain ⟨h0, ps, h1, h2, h3⟩ := this
      exact ⟨h0, ps, h1, h2, fun pos cv z => let ⟨c, e1, e2⟩ := h3 pos cv z; ⟨c, e1, e _ _ e2⟩⟩
    | ins x fs =>
      obtain ⟨C, dx, vs, h1, h2, h3⟩ := this
      exact ⟨C, dx, vs, h1, h2, Paired.mapP h3 fun u v z => ⟨z.1, z.2.mono e fun _ _ z => z⟩⟩
theorem Ok.not_m {a : Addr} (ok : Ok G p M) (hn : p.H a = none) : a ∉ p.m := fun h => by
  obtain ⟨k, hk, e⟩ := List.getElem_of_mem h
  have e1 : p.m[k]? = some a := by rw [← e]; exact List.getElem?_eq_getElem hk
  have hk2 : k < M.length := by rw [← ok.len]; exact hk
  have := ok.at_ k a _ e1 (List.getElem?_eq_getElem hk2)
  cases hM : M[k] with
  | lst ds => rw [hM] at this; obtain ⟨xs, h1, _⟩ := this; rw [hn] at h1; cases h1
  | dct kvs =>
    rw [hM] at this
    rcases this with ⟨_, h1, _⟩ | ⟨_, h1, _⟩ <;> (rw [hn] at h1; cases h1)
  | tbl x => rw [hM] at this; obtain ⟨_, _, h1, _⟩ := this; rw [hn] at h1; cases h1
  | ins x fs => rw [hM] at this; obtain ⟨_, _, _, h1, _⟩ := this; rw [hn] at h1; cases h1
theorem EnvR.wipe {env : En} {σ : L2.St} (e : EnvR G p env σ) : ∀ vs : List Nat, EnvR G p (wipeE env vs) (wipe σ vs)
  | [] => e
  | v :: vs => (EnvR.wipe e vs).unset
theorem Ps.put_H : (p.put P o).H = upd p.H P o := rfl
end

section
variable {X : Cx}
/-- a clause's tests -/
structure STs (X : Cx) (ifs : List Expr) (f : FT) : Prop where
  ex : ∃ tt, PTs X ifs tt ∧ EvT (gx X) tt f
theorem sts_nil : STs X [] tYesF := ⟨_, pts_nil, fun p env M σ b M' ok er h Q k => by cases h; exact k p (.refl p) rfl ok⟩
theorem sts_one {c : Expr} {ft : FT} (h : ST X c ft) : STs X [c] ft := by
  obtain ⟨t, pt, vt⟩ := h.ex
  exact ⟨_, pts_one pt, vt⟩
/-- what is true of a comprehension's block -/
structure Blk (X : Cx) (scope : Scope) (tg elt : Expr) (ifs : List Expr) (pt : Pat) (ft : FT) (fe : FE) : Prop where
  g : ∀ (s : Shared) (H : Hp) (C : Addr) (cl : List (Str × Addr)) (fp : List Addr), SG (X.blk s H scope (compEnvC scope cl C X.env) fp) tg pt
  t : ∀ (s : Shared) (H : Hp) (C : Addr) (cl : List (Str × Addr)) (fp : List Addr), STs (X.blk s H scope (compEnvC scope cl C X.env) fp) ifs ft
  e : ∀ (s : Shared) (H : Hp) (C : Addr) (cl : List (Str × Addr)) (fp : List Addr), SE (X.blk s H scope (compEnvC scope cl C X.env) fp) elt fe
/-- the wish of a clause's parts, whatever their readings: one reading that is under all of them -/
theorem pg_any {tg : Expr} {pt : Pat} (h : SG X tg pt) : PG X tg (fun v σ H Q => ∃ (p : Ps) (M : List MO) (d : D) (env env' : En), p.H = H ∧ Ok (gx X) p M ∧ EnvR (gx X) p env σ ∧ Rep X.K p.S p.m v d ∧ bindP pt d env = some env' ∧
    ∀ σ', EnvR (gx X) p env' σ' → (∀ vs : List Nat, (∀ i ∈ pt.slots, i ∈ vs) → wipe σ' vs = wipe σ vs) → Q σ' H) := by
  obtain ⟨g, hg, hv⟩ := h.ex
  refine ⟨fun pins s σ H v u Q I r q => ?_⟩
  obtain ⟨p, M, d, env, env', rfl, ok, er, rp, hb, k⟩ := q
  exact hg.run pins s σ p.H v u Q I r (hv p M v d env env' σ ok er rp hb Q k)
theorem pts_any {ifs : List Expr} {ft : FT} (h : STs X ifs ft) : PTs X ifs (fun σ H Q => ∃ (p : Ps) (M : List MO) (env : En) (b : Bool) (M' : List MO), p.H = H ∧ Ok (gx X) p M ∧ EnvR (gx X) p env σ ∧ ft env M = some (b, M') ∧
    ∀ q : Ps, Le p q → q.z = p.z → Ok (gx X) q M' → Q b q.H) := by
  obtain ⟨t, ht, hv⟩ := h.ex
  refine ⟨fun pins s σ H Q I q => ?_⟩
  obtain ⟨p, M, env, b, M', rfl, ok, er, hb, k⟩ := q
  exact ht.run pins s σ p.H Q I (hv p env M σ b M' ok er hb Q k)
theorem pe_any {e : Expr} {fe : FE} (h : SE X e fe) : PE X e (fun σ H Q => ∃ (p : Ps) (M : List MO) (env : En) (d : D) (M' : List MO), p.H = H ∧ Ok (gx X) p M ∧ EnvR (gx X) p env σ ∧ fe env M = some (d, M') ∧
    ∀ (q : Ps) (x : V), Le p q → q.z = p.z → Ok (gx X) q M' → Rep X.K q.S q.m x d → Q x q.H) := by
  obtain ⟨t, ht, hv⟩ := h.ex
  refine ⟨fun pins s σ H Q I q => ?_⟩
  obtain ⟨p, M, env, d, M', rfl, ok, er, hb, k⟩ := q
  exact ht.run pins s σ p.H Q I (hv p env M σ d M' ok er hb Q k)

/-- a new list: at an address that was free; it is not yet counted to what is not changed -/
def EvN (G : Gx) (te : TE) (f : FA) : Prop := ∀ (p : Ps) (env : En) (M : List MO) (σ : L2.St) (ds : List D) (M' : List MO), Ok G p M → EnvR G p env σ → f env M = some (ds, M') →
  ∀ Q : VK, (∀ (q : Ps) (a : Addr) (xs : List V), Le p q → a ∉ q.m → p.H a = none → q.S a = none → Ok G q M' → q.H a = some (.lst xs) → Reps G.K q.S q.m xs ds → Q (.ref a) q.H) → te σ p.H Q
structure SN (X : Cx) (e : Expr) (f : FA) : Prop where
  ex : ∃ te, PE X e te ∧ EvN (gx X) te f
def eFr (f : FA) (env : En) (M : List MO) : Option (D × List MO) := (f env M).map fun r => (.lst r.1, r.2)
theorem ev_fr {G : Gx} {te : TE} {f : FA} (h : EvN G te f) : Ev G te (eFr f) := by
  intro p env M σ d M' ok er h1 Q k
  obtain ⟨⟨ds, M1⟩, e1, h1⟩ := map_some h1
  cases h1
  refine h p env M σ ds _ ok er e1 Q fun q a xs l hm hn hs ok1 hH r => ?_
  exact k (q.fix a (.lst xs)) (.ref a) (Le.fix ok l hn) rfl (ok1.fix hs hm hH) (.lst upd_same (r.mono (fun b u h => by
    show upd q.S a (.lst xs) b = some u
    rw [upd_ne (ne_of_none h hs)]; exact h) fun _ _ z => z))
theorem SN.se {e : Expr} {f : FA} (h : SN X e f) : SE X e (eFr f) := by
  obtain ⟨t, p, v⟩ := h.ex
  exact ⟨t, p, ev_fr v⟩
def nComp (src : FI) (vs : List Nat) (pt : Pat) (ft : FT) (fe : FE) (env : En) (M : List MO) : Option (List D × List MO) := (src env M).bind fun r => if lim r.1.length = true then compL pt ft fe (wipeE env vs) r.1 r.2 else none
/-- the readings of the block's parts, as above -/
abbrev tgAny (G : Gx) (pt : Pat) : TG := fun v σ H Q => ∃ (p : Ps) (M : List MO) (d : D) (env env' : En), p.H = H ∧ Ok G p M ∧ EnvR G p env σ ∧ Rep G.K p.S p.m v d ∧ bindP pt d env = some env' ∧
    ∀ σ', EnvR G p env' σ' → (∀ vs : List Nat, (∀ i ∈ pt.slots, i ∈ vs) → wipe σ' vs = wipe σ vs) → Q σ' H
abbrev ttAny (G : Gx) (ft : FT) : TT := fun σ H Q => ∃ (p : Ps) (M : List MO) (env : En) (b : Bool) (M' : List MO), p.H = H ∧ Ok G p M ∧ EnvR G p env σ ∧ ft env M = some (b, M') ∧
    ∀ q : Ps, Le p q → q.z = p.z → Ok G q M' → Q b q.H
abbrev teAny (G : Gx) (fe : FE) : TE := fun σ H Q => ∃ (p : Ps) (M : List MO) (env : En) (d : D) (M' : List MO), p.H = H ∧ Ok G p M ∧ EnvR G p env σ ∧ fe env M = some (d, M') ∧
    ∀ (q : Ps) (x : V), Le p q → q.z = p.z → Ok G q M' → Rep G.K q.S q.m x d → Q x q.H
theorem evn_comp {G : Gx} {wi : TI} {src : FI} {vs : List Nat} {pt : Pat} {ft : FT} {fe : FE} (hi : EvI G wi src) (hv : ∀ i ∈ pt.slots, i ∈ vs) :
    EvN G (tLc wi (tgAny G pt) (ttAny G ft) (teAny G fe) vs) (nComp src vs pt ft fe) := by
  intro p env M σ fin M' ok er h Q k
  obtain ⟨⟨ds, M1⟩, e1, h⟩ := bind_some h
  split at h
  · rename_i hl
    refine hi p env M σ ds M1 ok er e1 _ fun q J l m ok1 wk P hP => ?_
    have hS := ok1.S_none hP
    have hM := ok1.not_m hP
    refine ⟨fun i n H => ∃ (r : Ps) (Mi : List MO) (acc : List V) (done rest : List D), n = ds.length - i ∧ i ≤ ds.length ∧ Le q r ∧ P ∉ r.m ∧ Ok G r Mi ∧ r.H = H ∧ r.S P = none ∧ r.H P = some (.lst acc) ∧ Reps G.K r.S r.m acc done ∧ done.length ≤ i ∧
        compL pt ft fe (wipeE env vs) (ds.drop i) Mi = some (rest, M') ∧ done ++ rest = fin,
      ⟨ds.length, q.put P (.lst []), M1, [], [], fin, by simp, Nat.zero_le _, Le.pend hP, hM, ok1.pend hS hM, rfl, hS, upd_same, .nil, Nat.zero_le _, h, rfl⟩, ?_⟩
    rintro i n H ⟨r, Mi, acc, done, rest, rfl, hi, lr, hPm, okr, rfl, hrS, hrP, rr, hd, hc, hf⟩
    by_cases hlt : i < ds.length
    · refine .inr ⟨wk.go i r Mi hlt lr okr, fun H' => ∃ (r : Ps) (Mi : List MO) (acc : List V) (done rest : List D), i + 1 ≤ ds.length ∧ Le q r ∧ P ∉ r.m ∧ Ok G r Mi ∧ r.H = H' ∧ r.S P = none ∧ r.H P = some (.lst acc) ∧ Reps G.K r.S r.m acc done ∧ done.length ≤ i + 1 ∧
        compL pt ft fe (wipeE env vs) (ds.drop (i + 1)) Mi = some (rest, M') ∧ done ++ rest = fin, fun H' z => ?_, fun x H' y => ?_⟩
      · obtain ⟨r, Mi, acc, done, rest, z⟩ := z
        exact ⟨ds.length - (i + 1), by omega, r, Mi, acc, done, rest, rfl, z⟩
      · have hds : ds[i]? = some ds[i] := List.getElem?_eq_getElem hlt
        obtain ⟨r1, l1, m1, e2, ok2, rx⟩ := wk.yld i r Mi x H' ds[i] hds lr okr y
        rw [List.drop_eq_getElem_cons hlt, compL] at hc
        obtain ⟨en, e3, hc⟩ := bind_some hc
        obtain ⟨⟨b, M2⟩, e4, hc⟩ := bind_some hc
        have lq1 : Le q r1 := lr.trans l1
        have pS1 : r1.S P = none := l1.nw P _ hrS hrP
        have pH1 : r1.H P = some (.lst acc) := l1.fr P _ hrP hPm
        refine ⟨r1, Mi, ds[i], wipeE env vs, en, e2, ok2, (er.mono (l.trans lq1)).wipe vs, rx, e3, fun σ' er2 hw => ⟨(hw vs hv).trans ?_, ?_⟩⟩
        · clear hw er2 k hc
          apply List.ext_getElem?
          intro j
          by_cases hj : j ∈ vs
          · by_cases hjl : j < σ.length
            · rw [wipe_get hj hjl, wipe_get hj (by rw [wipe_length]; exact hjl)]
            · rw [List.getElem?_eq_none (by rw [wipe_length, wipe_length]; omega), List.getElem?_eq_none (by rw [wipe_length]; omega)]
          · rw [wipe_out hj]
        · subst e2
          refine ⟨r1, Mi, en, b, M2, rfl, ok2, er2, e4, fun q2 l2 m2 ok3 => ?_⟩
          have hPm1 : P ∉ r1.m := l1.nin hrP hPm
          have pS2 : q2.S P = none := l2.nw P _ pS1 pH1
          have pH2 : q2.H P = some (.lst acc) := l2.fr P _ pH1 hPm1
          have hPm2 : P ∉ q2.m := l2.nin pH1 hPm1
          have lq2 : Le q q2 := lq1.trans l2
          cases b with
          | true =>
            simp only [if_true] at hc ⊢
            obtain ⟨⟨d2, M3⟩, e5, hc⟩ := bind_some hc
            obtain ⟨⟨ts, M4⟩, e6, hc⟩ := map_some hc
            cases hc
            refine ⟨q2, M2, en, d2, M3, rfl, ok3, er2.mono l2, e5, fun q3 z l3 m3 ok4 rz => ?_⟩
            have pS3 : q3.S P = none := l3.nw P _ pS2 pH2
            have pH3 : q3.H P = some (.lst acc) := l3.fr P _ pH2 hPm2
            have hPm3 : P ∉ q3.m := l3.nin pH2 hPm2
            have lq3 : Le q q3 := lq2.trans l3
            have hal : acc.length ≤ i := by rw [rr.length]; exact hd
            have hl1 := of_decide_eq_true hl
            refine ⟨acc, pH3, Nat.lt_of_lt_of_le (m := ds.length) (by omega) (lim_line hl), q3.put P (.lst (acc ++ [z])), M3, acc ++ [z], done ++ [d2], ts, hlt, lq3.repend hP, hPm3, ok4.pend pS3 hPm3, rfl, pS3, upd_same, ?_, ?_, e6, ?_⟩
            · exact ((l1.trans (l2.trans l3)).reps rr).snoc rz
            · rw [List.length_append]; simp; exact hd
            · rw [List.append_assoc]; exact hf
          | false =>
            simp only [Bool.false_eq_true, if_false] at hc ⊢
            exact ⟨q2, M2, acc, done, rest, hlt, lq2, hPm2, ok3, rfl, pS2, pH2, (l1.trans l2).reps rr, Nat.le_succ_of_le hd, hc, hf⟩
    · have e : i = ds.length := by omega
      subst e
      rw [List.drop_length, compL] at hc
      cases hc
      rw [List.append_nil] at hf
      subst hf
      exact .inl ⟨wk.stop r _ lr okr, k r P acc (l.trans lr) hPm (l.fresh hP) hrS okr hrP rr⟩
  · cases h
end
section
variable {X : Cx} {elt tg iter : Expr} {ifs : List Expr} {scope : Scope} {own : List (Str × Nat)} {pos : Pos} {src : FI} {pt : Pat} {ft : FT} {fe : FE}
/-- [elt for tg in iter if ..] -/
theorem sn_comp (hc : X.calm = true) (hN : X.N.Nodup) (hi : SI X tg iter src) (ok : BlkOk X.N X.env.scope scope own) (hv : ∀ i ∈ pt.slots, i ∈ own.map (·.2)) (b : Blk X scope tg elt ifs pt ft fe)
    (hs : ∀ x, foldedSetIterable iter X.env x = pure x := by intro _; rfl) : SN X (.ListComp elt [⟨tg, iter, ifs, 0⟩] scope pos) (nComp src (own.map (·.2)) pt ft fe) := by
  obtain ⟨wi, pi, vi⟩ := hi.ex
  refine ⟨_, pe_lc (g := tgAny (gx X) pt) (tt := ttAny (gx X) ft) (te := teAny (gx X) fe) hc hN pi ok (fun s H C cl fp => pg_any (b.g s H C cl fp)) (fun s H C cl fp => pts_any (b.t s H C cl fp)) (fun s H C cl fp => pe_any (b.e s H C cl fp)) hs, evn_comp vi hv⟩
end
end BX

set_option Elab.async false
set_option linter.all false
set_option maxRecDepth 100000
set_option maxHeartbeats 2000000
/-! BX8: statements. -/
namespace BX
open PySem L2

inductive Out where
  | nx (e : En) (M : List MO) | rt (d : D) (M : List MO) | bk (e : En) (M : List MO) | ct (e : En) (M : List MO) | ex (c : Nat)
abbrev FS := En → List MO → Option Out
/-- what an outcome asks -/
def Ob (G : Gx) (W : Nat → Hp → Prop) (D : Ends) (p : Ps) : Out → Prop
  | .nx e M => ∀ q σ, Le p q → Ok G q M → EnvR G q e σ → D.nx σ q.H
  | .bk e M => ∀ q σ, Le p q → Ok G q M → EnvR G q e σ → D.bk σ q.H
  | .ct e M => ∀ q σ, Le p q → Ok G q M → EnvR G q e σ → D.ct σ q.H
  | .rt d M => ∀ q x, Le p q → Ok G q M → Rep G.K q.S q.m x d → D.rt x q.H
  | .ex c => ∀ q, Le p q → W c q.H
theorem Ob.mono {G : Gx} {W : Nat → Hp → Prop} {D : Ends} {p q : Ps} {o : Out} (l : Le p q) (h : Ob G W D p o) : Ob G W D q o := by
  cases o with
  | nx e M => exact fun r σ l2 => h r σ (l.trans l2)
  | bk e M => exact fun r σ l2 => h r σ (l.trans l2)
  | ct e M => exact fun r σ l2 => h r σ (l.trans l2)
  | rt d M => exact fun r x l2 => h r x (l.trans l2)
  | ex c => exact fun r l2 => h r (l.trans l2)
def EvS (G : Gx) (W : Nat → Hp → Prop) (ts : TS) (f : FS) : Prop := ∀ (p : Ps) (env : En) (M : List MO) (σ : L2.St) (o : Out), Ok G p M → EnvR G p env σ → f env M = some o → ∀ D : Ends, Ob G W D p o → ts D σ p.H
structure SS (X : Cx) (W : Nat → Hp → Prop) (st : Stmt) (f : FS) : Prop where
  ex : ∃ ts, PS X st ts ∧ EvS (gx X) W ts f
structure SB (X : Cx) (W : Nat → Hp → Prop) (sts : List Stmt) (f : FS) : Prop where
  ex : ∃ ts, PSs X sts ts ∧ EvS (gx X) W ts f

def fSkip (env : En) (M : List MO) : Option Out := some (.nx env M)
def fSeq (f g : FS) (env : En) (M : List MO) : Option Out := (f env M).bind fun o => match o with
  | .nx e m => g e m
  | o => some o
def fAsg (pt : Pat) (fe : FE) (env : En) (M : List MO) : Option Out := (fe env M).bind fun r => (bindP pt r.1 env).map fun e => .nx e r.2
def fNew (i : Nat) (fn : FA) (env : En) (M : List MO) : Option Out := (fn env M).map fun r => .nx (env.set i (some (.loc r.2.length))) (r.2 ++ [.lst r.1])
def fDrop (fe : FE) (env : En) (M : List MO) : Option Out := (fe env M).map fun r => .nx env r.2
def fRet (fe : FE) (env : En) (M : List MO) : Option Out := (fe env M).map fun r => .rt r.1 r.2
def fRetNew (fn : FA) (env : En) (M : List MO) : Option Out := (fn env M).map fun r => .rt (.loc r.2.length) (r.2 ++ [.lst r.1])
def fRetN (_ : En) (M : List MO) : Option Out := some (.rt .non M)
def fIf (t : FT) (f g : FS) (env : En) (M : List MO) : Option Out := (t env M).bind fun r => if r.1 = true then f env r.2 else g env r.2
def fBrk (env : En) (M : List MO) : Option Out := some (.bk env M)
def fCnt (env : En) (M : List MO) : Option Out := some (.ct env M)
def forL (pt : Pat) (body : FS) : List D → En → List MO → Option Out
  | [], env, M => some (.nx env M)
  | d :: ds, env, M => (bindP pt d env).bind fun e1 => (body e1 M).bind fun o => match o with
    | .nx e m => forL pt body ds e m
    | .ct e m => forL pt body ds e m
    | .bk e m => some (.nx e m)
    | o => some o
def fFor (src : FI) (pt : Pat) (body : FS) (env : En) (M : List MO) : Option Out := (src env M).bind fun r => forL pt body r.1 env r.2
def whileL (t : FT) (body : FS) : Nat → En → List MO → Option Out
  | 0, _, _ => none
  | n + 1, env, M => (t env M).bind fun r => if r.1 = true then (body env r.2).bind fun o => match o with
    | .nx e m => whileL t body n e m
    | .ct e m => whileL t body n e m
    | .bk e m => some (.nx e m)
    | o => some o
    else some (.nx env r.2)
def fWhile (n : Nat) (t : FT) (body : FS) : FS := whileL t body n

section
variable {X : Cx} {W : Nat → Hp → Prop} {st : Stmt} {rest sts sts2 : List Stmt} {e : Expr} {pos : Pos} {f g : FS} {fe : FE} {fn : FA} {ft : FT}
theorem sb_nil : SB X W [] fSkip := ⟨_, pss_nil, fun p env M σ o ok er h D k => by cases h; exact k p σ (.refl p) ok er⟩
theorem sb_cons (h1 : SS X W st f) (h2 : SB X W rest g) : SB X W (st :: rest) (fSeq f g) := by
  obtain ⟨t, pt, vt⟩ := h1.ex
  obtain ⟨u, pu, vu⟩ := h2.ex
  refine ⟨_, pss_cons pt pu, fun p env M σ o ok er h D k => ?_⟩
  obtain ⟨o1, e1, h⟩ := bind_some h
  refine vt p env M σ o1 ok er e1 { D with nx := u D } ?_
  cases o1 with
  | nx en1 M1 => exact fun q σ' l ok1 er1 => vu q en1 M1 σ' o ok1 er1 h D (k.mono l)
  | _ => cases h; exact k
theorem sb_one (h1 : SS X W st f) : SB X W [st] f := by
  obtain ⟨t, pt, vt⟩ := h1.ex
  exact ⟨_, pss_one pt, vt⟩
theorem ss_pass : SS X W (.Pass pos) fSkip := ⟨_, ps_pass, fun p env M σ o ok er h D k => by cases h; exact k p σ (.refl p) ok er⟩
theorem ss_break : SS X W (.Break pos) fBrk := ⟨_, ps_break, fun p env M σ o ok er h D k => by cases h; exact k p σ (.refl p) ok er⟩
theorem ss_continue : SS X W (.Continue pos) fCnt := ⟨_, ps_continue, fun p env M σ o ok er h D k => by cases h; exact k p σ (.refl p) ok er⟩
theorem ss_expr (h : SE X e fe) (hs : swapsWith e none pos.line X.env = pure false := by rfl) : SS X W (.Expr e pos) (fDrop fe) := by
  obtain ⟨t, pt, vt⟩ := h.ex
  refine ⟨_, ps_expr pt hs, fun p env M σ o ok er h D k => ?_⟩
  obtain ⟨⟨d, M1⟩, e1, h⟩ := map_some h
  subst h
  exact vt p env M σ d M1 ok er e1 _ fun q x l m ok1 _ => k q σ l ok1 (er.mono l)
theorem ss_ret (h : SE X e fe) : SS X W (.Return (some e) pos) (fRet fe) := by
  obtain ⟨t, pt, vt⟩ := h.ex
  refine ⟨_, ps_ret pt, fun p env M σ o ok er h D k => ?_⟩
  obtain ⟨⟨d, M1⟩, e1, h⟩ := map_some h
  subst h
  exact vt p env M σ d M1 ok er e1 _ fun q x l m ok1 rx => k q x l ok1 rx
theorem ss_retN : SS X W (.Return none pos) fRetN := ⟨_, ps_retN, fun p env M σ o ok er h D k => by cases h; exact k p .non (.refl p) ok .non⟩
/-- a new list becomes a mutable object -/
theorem new_ok {G : Gx} {p q : Ps} {M' : List MO} {a : Addr} {xs : List V} {ds : List D} {M : List MO} (ok0 : Ok G p M) (l : Le p q) (m : a ∉ q.m) (hn : p.H a = none) (hs : q.S a = none) (ok : Ok G q M') (hH : q.H a = some (.lst xs)) (r : Reps G.K q.S q.m xs ds) :
    Le p ⟨q.m ++ [a], q.S, q.H⟩ ∧ Ok G ⟨q.m ++ [a], q.S, q.H⟩ (M' ++ [.lst ds]) ∧ Rep G.K q.S (q.m ++ [a]) (.ref a) (.loc M'.length) := by
  have hm : a ∉ q.m := m
  have eH : q.H = upd q.H a (.lst xs) := by
    funext b
    by_cases hb : b = a
    · rw [hb, upd_same]; exact hH
    · rw [upd_ne hb]
  have em : ∀ (k : Nat) (b : Addr), q.m[k]? = some b → (q.m ++ [a])[k]? = some b := fun k b h => by
    rw [List.getElem?_append_left (List.getElem?_eq_some_iff.mp h).1]; exact h
  have hlt : (q.m ++ [a])[M'.length]? = some a := by
    rw [← ok.len, List.getElem?_append_right (Nat.le_refl _)]
    simp
  refine ⟨⟨?_, l.sh, l.nw, l.fr, l.dm, fun b hb => ?_⟩, ⟨ok.sub, ?_, fun b hb => ?_, ?_, fun k b u e1 e2 => ?_⟩, .loc hlt⟩
  · obtain ⟨t, ht⟩ := l.m
    exact ⟨t ++ [a], by show q.m ++ [a] = _; rw [ht, List.append_assoc]⟩
  · have hb' : b ∈ q.m ++ [a] := hb
    rw [List.mem_append, List.mem_singleton] at hb'
    rcases hb' with hb' | rfl
    · exact l.nm b hb'
    · exact .inr hn
  · show (q.m ++ [a]).Nodup
    rw [List.nodup_append]
    refine ⟨ok.nd, by simp, fun x hx y hy => ?_⟩
    rw [List.mem_singleton] at hy
    subst hy
    exact fun e => hm (by rw [← e]; exact hx)
  · have hb' : b ∈ q.m ++ [a] := hb
    rw [List.mem_append, List.mem_singleton] at hb'
    rcases hb' with hb' | rfl
    · exact ok.apart b hb'
    · exact hs
  · show (q.m ++ [a]).length = (M' ++ [MO.lst ds]).length
    rw [List.length_append, List.length_append, ok.len]
    rfl
  · have e1' : (q.m ++ [a])[k]? = some b := e1
    by_cases hk : k < q.m.length
    · rw [List.getElem?_append_left hk] at e1'
      rw [List.getElem?_append_left (by rw [← ok.len]; exact hk)] at e2
      have := ok.at_ k b u e1' e2
      cases u with
      | lst es =>
        obtain ⟨ys, h1, h2⟩ := this
        exact ⟨ys, h1, h2.mono (fun _ _ z => z) em⟩
      | dct kvs => exact this
      | tbl x => exact this
      | ins x fs =>
        obtain ⟨C, dx, vs, h1, h2, h3⟩ := this
        exact ⟨C, dx, vs, h1, h2, Paired.mapP h3 fun u v z => ⟨z.1, z.2.mono (fun _ _ z => z) em⟩⟩
    · rw [List.getElem?_append_right (Nat.le_of_not_lt hk)] at e1'
      rw [List.getElem?_append_right (by rw [← ok.len]; exact Nat.le_of_not_lt hk)] at e2
      rw [ok.len] at e1'
      generalize k - M'.length = j at e1' e2
      cases j with
      | zero =>
        simp only [List.getElem?_cons_zero, Option.some.injEq] at e1' e2
        subst e1' e2
        exact ⟨xs, hH, r.mono (fun _ _ z => z) em⟩
      | succ j => simp at e2
theorem ss_retNew (h : SN X e fn) : SS X W (.Return (some e) pos) (fRetNew fn) := by
  obtain ⟨t, pt, vt⟩ := h.ex
  refine ⟨_, ps_ret pt, fun p env M σ o ok er h D k => ?_⟩
  obtain ⟨⟨ds, M1⟩, e1, h⟩ := map_some h
  subst h
  refine vt p env M σ ds M1 ok er e1 _ fun q a xs l m hn hs ok1 hH r => ?_
  obtain ⟨l2, ok2, r2⟩ := new_ok ok l m hn hs ok1 hH r
  exact k ⟨q.m ++ [a], q.S, q.H⟩ (.ref a) l2 ok2 r2

/-! ### assignments -/
theorem ss_asg {tg : Expr} {pt : Pat} (hg : SG X tg pt) (h : SE X e fe) (hs : swapsWithSole [tg] e pos.line X.env = pure false := by rfl) (hw : swappedStores [tg] e X.env = pure none := by rfl) (h1 : (assignEach [tg] X.env).map (·.2) = [assign tg X.env] := by rfl) : SS X W (.Assign [tg] e pos) (fAsg pt fe) := by
  obtain ⟨t, pe, vt⟩ := h.ex
  obtain ⟨g, pg, vg⟩ := hg.ex
  refine ⟨_, ps_asg pe pg hs hw h1, fun p env M σ o ok er h D k => ?_⟩
  obtain ⟨⟨d, M1⟩, e1, h⟩ := bind_some h
  obtain ⟨en, e2, h⟩ := map_some h
  subst h
  refine vt p env M σ d M1 ok er e1 _ fun q x l m ok1 rx => ?_
  exact vg q M1 x d env en σ ok1 (er.mono l) rx e2 _ fun σ' er2 _ => k q σ' l ok1 er2
theorem ss_set {i : Nat} {x : Str} {pos' : Pos} (hN : X.N.Nodup) (h : SE X e fe) (hi : X.N[i]? = some x := by rfl) (hx : Loc X.env.scope x := by first | exact .inl rfl | exact .inr rfl) (hs : swapsWith e (some (.Name x pos')) pos.line X.env = pure false := by rfl)
    (hf : X.fn x = true ∨ X.env.scope.names.lookup x = some .local := by first | exact .inl rfl | exact .inr rfl | assumption) : SS X W (.Assign [.Name x pos'] e pos) (fAsg (.nm i) fe) := by
  obtain ⟨t, pe, vt⟩ := h.ex
  refine ⟨_, ps_set hN hi hx pe hs hf, fun p env M σ o ok er h D k => ?_⟩
  obtain ⟨⟨d, M1⟩, e1, h⟩ := bind_some h
  obtain ⟨en, e2, h⟩ := map_some h
  subst h
  cases e2
  exact vt p env M σ d M1 ok er e1 _ fun q x l m ok1 rx => k q _ l ok1 ((er.mono l).set rx)
theorem ss_setNew {i : Nat} {x : Str} {pos' : Pos} (hN : X.N.Nodup) (h : SN X e fn) (hi : X.N[i]? = some x := by rfl) (hx : Loc X.env.scope x := by first | exact .inl rfl | exact .inr rfl) (hs : swapsWith e (some (.Name x pos')) pos.line X.env = pure false := by rfl)
    (hf : X.fn x = true ∨ X.env.scope.names.lookup x = some .local := by first | exact .inl rfl | exact .inr rfl | assumption) : SS X W (.Assign [.Name x pos'] e pos) (fNew i fn) := by
  obtain ⟨t, pe, vt⟩ := h.ex
  refine ⟨_, ps_set hN hi hx pe hs hf, fun p env M σ o ok er h D k => ?_⟩
  obtain ⟨⟨ds, M1⟩, e1, h⟩ := map_some h
  subst h
  refine vt p env M σ ds M1 ok er e1 _ fun q a xs l m hn hs ok1 hH r => ?_
  obtain ⟨l2, ok2, r2⟩ := new_ok ok l m hn hs ok1 hH r
  exact k ⟨q.m ++ [a], q.S, q.H⟩ _ l2 ok2 ((er.mono l2).set r2)
/-- name = [..] on one line, the name a local -/
theorem ss_setLc {i : Nat} {y : Str} {py : Pos} {elt tg iter : Expr} {ifs : List Expr} {scope : Scope} {own : List (Str × Nat)} {cpos : Pos} {src : FI} {pt : Pat} {ft : FT} {fe : FE} (hc : X.calm = true) (hN : X.N.Nodup)
    (hi : SI X tg iter src) (ok : BlkOk X.N X.env.scope scope own) (hv : ∀ i ∈ pt.slots, i ∈ own.map (·.2)) (b : Blk X scope tg elt ifs pt ft fe) (hy : X.N[i]? = some y := by rfl) (hyl : X.env.scope.names.lookup y = some .local := by rfl)
    (hsw : swapsWith (.ListComp elt [⟨tg, iter, ifs, 0⟩] scope cpos) (some (.Name y py)) pos.line X.env = pure true := by exact sw_true rfl rfl rfl (by decide +kernel)) (hs : ∀ x, foldedSetIterable iter X.env x = pure x := by intro _; rfl) :
    SS X W (.Assign [.Name y py] (.ListComp elt [⟨tg, iter, ifs, 0⟩] scope cpos) pos) (fAsg (.nm i) (eFr (nComp src (own.map (·.2)) pt ft fe))) := by
  obtain ⟨wi, pi, vi⟩ := hi.ex
  refine ⟨_, ps_setLc (g := tgAny (gx X) pt) (tt := ttAny (gx X) ft) (te := teAny (gx X) fe) hc hN hy hyl hsw pi ok (fun s H C cl fp => pg_any (b.g s H C cl fp)) (fun s H C cl fp => pts_any (b.t s H C cl fp)) (fun s H C cl fp => pe_any (b.e s H C cl fp)) hs, ?_⟩
  intro p env M σ o ok er h D k
  obtain ⟨⟨d, M1⟩, e1, h⟩ := bind_some h
  obtain ⟨en, e2, h⟩ := map_some h
  subst h
  cases e2
  exact ev_fr (evn_comp vi hv) p env M σ d M1 ok er e1 _ fun q x l m ok1 rx => k q _ l ok1 ((er.mono l).set rx)
theorem ss_newLc {i : Nat} {y : Str} {py : Pos} {elt tg iter : Expr} {ifs : List Expr} {scope : Scope} {own : List (Str × Nat)} {cpos : Pos} {src : FI} {pt : Pat} {ft : FT} {fe : FE} (hc : X.calm = true) (hN : X.N.Nodup)
    (hi : SI X tg iter src) (ok : BlkOk X.N X.env.scope scope own) (hv : ∀ i ∈ pt.slots, i ∈ own.map (·.2)) (b : Blk X scope tg elt ifs pt ft fe) (hy : X.N[i]? = some y := by rfl) (hyl : X.env.scope.names.lookup y = some .local := by rfl)
    (hsw : swapsWith (.ListComp elt [⟨tg, iter, ifs, 0⟩] scope cpos) (some (.Name y py)) pos.line X.env = pure true := by exact sw_true rfl rfl rfl (by decide +kernel)) (hs : ∀ x, foldedSetIterable iter X.env x = pure x := by intro _; rfl) :
    SS X W (.Assign [.Name y py] (.ListComp elt [⟨tg, iter, ifs, 0⟩] scope cpos) pos) (fNew i (nComp src (own.map (·.2)) pt ft fe)) := by
  obtain ⟨wi, pi, vi⟩ := hi.ex
  refine ⟨_, ps_setLc (g := tgAny (gx X) pt) (tt := ttAny (gx X) ft) (te := teAny (gx X) fe) hc hN hy hyl hsw pi ok (fun s H C cl fp => pg_any (b.g s H C cl fp)) (fun s H C cl fp => pts_any (b.t s H C cl fp)) (fun s H C cl fp => pe_any (b.e s H C cl fp)) hs, ?_⟩
  intro p env M σ o ok er h D k
  obtain ⟨⟨ds, M1⟩, e1, h⟩ := map_some h
  subst h
  refine evn_comp vi hv p env M σ ds M1 ok er e1 _ fun q a xs l m hn hs ok1 hH r => ?_
  obtain ⟨l2, ok2, r2⟩ := new_ok ok l m hn hs ok1 hH r
  exact k ⟨q.m ++ [a], q.S, q.H⟩ _ l2 ok2 ((er.mono l2).set r2)
theorem evs_par {G : Gx} {i j : Nat} {ta : TA} (h : EvA G ta fn) : EvS G W (tPar i j ta) (fAsg (.tp [i, j]) (eTup fn)) := by
  intro p env M σ o ok er h1 D k
  obtain ⟨⟨d, M1⟩, e1, h1⟩ := bind_some h1
  obtain ⟨en, e2, h1⟩ := map_some h1
  subst h1
  obtain ⟨⟨ds, M2⟩, e3, e1⟩ := bind_some e1
  split at e1
  · cases e1
    simp only [bindP] at e2
    split at e2
    · rename_i hl
      cases e2
      match ds, hl with
      | [d1, d2], _ =>
        refine h p env M σ _ _ ok er e3 _ fun q xs l m ok1 r => ?_
        obtain ⟨x, y, rfl, rx, ry⟩ : ∃ x y, xs = [x, y] ∧ Rep G.K q.S q.m x d1 ∧ Rep G.K q.S q.m y d2 := by
          cases r with
          | cons h r => cases r with
            | cons h2 r => cases r; exact ⟨_, _, rfl, h, h2⟩
        exact ⟨x, y, rfl, k q _ l ok1 (((er.mono l).set rx).set ry)⟩
    · cases e2
  · cases e1
theorem ss_par {i j : Nat} {x y : Str} {a b : Expr} {px py pt : Pos} {kt k2 : Nat} {pt2 : Pos} (hc : X.calm = true) (hN : X.N.Nodup) (ha : SA X [a, b] fn) (hi : X.N[i]? = some x := by rfl) (hj : X.N[j]? = some y := by rfl) (hij : i ≠ j := by decide)
    (hx : X.env.scope.names.lookup x = some .local := by rfl) (hy : X.env.scope.names.lookup y = some .local := by rfl)
    (hw : swappedStores [.Tuple [.Name x px, .Name y py] kt pt] (.Tuple [a, b] k2 pt2) X.env = pure (some [x, y]) := by rfl)
    (hs : swapsWithSole [.Tuple [.Name x px, .Name y py] kt pt] (.Tuple [a, b] k2 pt2) pos.line X.env = pure false := by rfl) :
    SS X W (.Assign [.Tuple [.Name x px, .Name y py] kt pt] (.Tuple [a, b] k2 pt2) pos) (fAsg (.tp [i, j]) (eTup fn)) := by
  obtain ⟨t, pt, vt⟩ := ha.ex
  exact ⟨_, ps_par hc hN hi hj hij hx hy pt hw hs, evs_par vt⟩
theorem evs_par3 {G : Gx} {i j n : Nat} {ta : TA} (h : EvA G ta fn) : EvS G W (tPar3 i j n ta) (fAsg (.tp [i, j, n]) (eTup fn)) := by
  intro p env M σ o ok er h1 D k
  obtain ⟨⟨d, M1⟩, e1, h1⟩ := bind_some h1
  obtain ⟨en, e2, h1⟩ := map_some h1
  subst h1
  obtain ⟨⟨ds, M2⟩, e3, e1⟩ := bind_some e1
  split at e1
  · cases e1
    simp only [bindP] at e2
    split at e2
    · rename_i hl
      cases e2
      match ds, hl with
      | [d1, d2, d3], _ =>
        refine h p env M σ _ _ ok er e3 _ fun q xs l m ok1 r => ?_
        cases r with
        | cons h1 r => cases r with
          | cons h2 r => cases r with
            | cons h3 r => cases r; exact ⟨_, _, _, rfl, k q _ l ok1 ((((er.mono l).set h1).set h2).set h3)⟩
    · cases e2
  · cases e1
theorem ss_par3 {i j n : Nat} {x y z : Str} {a b c : Expr} {px py pz pt : Pos} {kt k2 : Nat} {pt2 : Pos} (hc : X.calm = true) (hN : X.N.Nodup) (ha : SA X [a, b, c] fn) (hi : X.N[i]? = some x := by rfl) (hj : X.N[j]? = some y := by rfl) (hl : X.N[n]? = some z := by rfl) (hij : i ≠ j := by decide) (hil : i ≠ n := by decide) (hjl : j ≠ n := by decide)
    (hx : X.env.scope.names.lookup x = some .local := by rfl) (hy : X.env.scope.names.lookup y = some .local := by rfl) (hz : X.env.scope.names.lookup z = some .local := by rfl)
    (hw : swappedStores [.Tuple [.Name x px, .Name y py, .Name z pz] kt pt] (.Tuple [a, b, c] k2 pt2) X.env = pure (some [x, y, z]) := by rfl)
    (hs : swapsWithSole [.Tuple [.Name x px, .Name y py, .Name z pz] kt pt] (.Tuple [a, b, c] k2 pt2) pos.line X.env = pure false := by rfl) :
    SS X W (.Assign [.Tuple [.Name x px, .Name y py, .Name z pz] kt pt] (.Tuple [a, b, c] k2 pt2) pos) (fAsg (.tp [i, j, n]) (eTup fn)) := by
  obtain ⟨t, pt, vt⟩ := ha.ex
  exact ⟨_, ps_par3 hc hN hi hj hl hij hil hjl hx hy hz pt hw hs, evs_par3 vt⟩

/-! ### if, for, while -/
theorem ss_if {c : Expr} (hc : ST X c ft) (ha : SB X W sts f) (hb : SB X W sts2 g) : SS X W (.If c sts sts2 pos) (fIf ft f g) := by
  obtain ⟨t, pt, vt⟩ := hc.ex
  obtain ⟨ta, pa, va⟩ := ha.ex
  obtain ⟨tb, pb, vb⟩ := hb.ex
  refine ⟨_, ps_if pt pa pb, fun p env M σ o ok er h D k => ?_⟩
  obtain ⟨⟨b1, M1⟩, e1, h⟩ := bind_some h
  refine vt p env M σ b1 M1 ok er e1 _ fun q l m ok1 => ?_
  cases b1 with
  | true => exact va q env M1 σ o ok1 (er.mono l) h D (k.mono l)
  | false => exact vb q env M1 σ o ok1 (er.mono l) h D (k.mono l)
theorem ss_for {tg iter : Expr} {src : FI} {pt : Pat} (hp : PassesOwn (model X.prog X.w) X.A X.env X.xe) (hc : X.calm = true) (hi : SI X tg iter src) (hg : SG X tg pt) (hb : SB X W sts f)
    (hs : ∀ x, foldedSetIterable iter X.env x = pure x := by intro _; rfl) : SS X W (.For tg iter sts [] pos) (fFor src pt f) := by
  obtain ⟨wi, pi, vi⟩ := hi.ex
  obtain ⟨g, pg, vg⟩ := hg.ex
  obtain ⟨tb, pb, vb⟩ := hb.ex
  refine ⟨_, ps_for hp hc pi pg pb hs, fun p env M σ o ok er h D k => ?_⟩
  obtain ⟨⟨ds, M1⟩, e1, h⟩ := bind_some h
  refine vi p env M σ ds M1 ok er e1 _ fun q J l m ok1 wk => ?_
  refine ⟨fun i n σ H => ∃ (r : Ps) (en : En) (Mi : List MO), n = ds.length - i ∧ i ≤ ds.length ∧ Le q r ∧ r.H = H ∧ Ok (gx X) r Mi ∧ EnvR (gx X) r en σ ∧ forL pt f (ds.drop i) en Mi = some o,
    ⟨ds.length, q, env, M1, by simp, Nat.zero_le _, .refl q, rfl, ok1, er.mono l, h⟩, ?_⟩
  rintro i n σ1 H1 ⟨r, en, Mi, rfl, hi, lr, rfl, okr, err, hf⟩
  by_cases hlt : i < ds.length
  · refine .inr ⟨wk.go i r Mi hlt lr okr, fun σ' H' => ∃ (r : Ps) (en : En) (Mi : List MO), i + 1 ≤ ds.length ∧ Le q r ∧ r.H = H' ∧ Ok (gx X) r Mi ∧ EnvR (gx X) r en σ' ∧ forL pt f (ds.drop (i + 1)) en Mi = some o, fun σ' H' z => ?_, fun x H' y => ?_⟩
    · obtain ⟨r, en, Mi, z⟩ := z
      exact ⟨ds.length - (i + 1), by omega, r, en, Mi, rfl, z⟩
    · have hds : ds[i]? = some ds[i] := List.getElem?_eq_getElem hlt
      obtain ⟨r1, l1, m1, e2, ok2, rx⟩ := wk.yld i r Mi x H' ds[i] hds lr okr y
      rw [List.drop_eq_getElem_cons hlt, forL] at hf
      obtain ⟨en1, e3, hf⟩ := bind_some hf
      obtain ⟨o1, e4, hf⟩ := bind_some hf
      subst e2
      refine vg r1 Mi x ds[i] en en1 σ1 ok2 (err.mono l1) rx e3 _ fun σ' er2 _ => ?_
      refine vb r1 en1 Mi σ' o1 ok2 er2 e4 _ ?_
      have lq : Le q r1 := lr.trans l1
      cases o1 with
      | nx e M => exact fun w σ2 l2 ok3 er3 => ⟨w, e, M, hlt, lq.trans l2, rfl, ok3, er3, hf⟩
      | ct e M => exact fun w σ2 l2 ok3 er3 => ⟨w, e, M, hlt, lq.trans l2, rfl, ok3, er3, hf⟩
      | bk e M =>
        cases hf
        exact fun w σ2 l2 ok3 er3 => k w σ2 (l.trans (lq.trans l2)) ok3 er3
      | rt d M =>
        cases hf
        exact fun w x l2 ok3 er3 => k w x (l.trans (lq.trans l2)) ok3 er3
      | ex c =>
        cases hf
        exact fun w l2 => k w (l.trans (lq.trans l2))
  · have e : i = ds.length := by omega
    subst e
    rw [List.drop_length, forL] at hf
    cases hf
    exact .inl ⟨wk.stop r _ lr okr, k r σ1 (l.trans lr) okr err⟩
theorem ss_while {c : Expr} {n : Nat} (hp : PassesOwn (model X.prog X.w) X.A X.env X.xe) (hc : ST X c ft) (hb : SB X W sts f) : SS X W (.While c sts [] pos) (fWhile n ft f) := by
  obtain ⟨t, pt, vt⟩ := hc.ex
  obtain ⟨tb, pb, vb⟩ := hb.ex
  refine ⟨_, ps_while hp pt pb, fun p env M σ o ok er h D k => ?_⟩
  refine ⟨fun n σ H => ∃ (r : Ps) (en : En) (Mi : List MO), Le p r ∧ r.H = H ∧ Ok (gx X) r Mi ∧ EnvR (gx X) r en σ ∧ whileL ft f n en Mi = some o, ⟨n, p, env, M, .refl p, rfl, ok, er, h⟩, ?_⟩
  rintro n σ1 H1 ⟨r, en, Mi, lr, rfl, okr, err, hf⟩
  cases n with
  | zero => cases hf
  | succ n =>
    rw [whileL] at hf
    obtain ⟨⟨b, M1⟩, e1, hf⟩ := bind_some hf
    refine vt r en Mi σ1 b M1 okr err e1 _ fun q l m ok1 => ?_
    cases b with
    | true =>
      simp only [if_true] at hf ⊢
      obtain ⟨o1, e2, hf⟩ := bind_some hf
      refine ⟨fun σ' H' => ∃ (r : Ps) (en : En) (Mi : List MO), Le p r ∧ r.H = H' ∧ Ok (gx X) r Mi ∧ EnvR (gx X) r en σ' ∧ whileL ft f n en Mi = some o, fun σ' H' z => ⟨n, Nat.lt_succ_self n, z⟩, ?_⟩
      refine vb q en M1 σ1 o1 ok1 (err.mono l) e2 _ ?_
      have lq : Le p q := lr.trans l
      cases o1 with
      | nx e M => exact fun w σ2 l2 ok3 er3 => ⟨w, e, M, lq.trans l2, rfl, ok3, er3, hf⟩
      | ct e M => exact fun w σ2 l2 ok3 er3 => ⟨w, e, M, lq.trans l2, rfl, ok3, er3, hf⟩
      | bk e M =>
        cases hf
        exact fun w σ2 l2 ok3 er3 => k w σ2 (lq.trans l2) ok3 er3
      | rt d M =>
        cases hf
        exact fun w x l2 ok3 er3 => k w x (lq.trans l2) ok3 er3
      | ex c =>
        cases hf
        exact fun w l2 => k w (lq.trans l2)
    | false =>
      simp only [Bool.false_eq_true, if_false] at hf ⊢
      cases hf
      exact k q σ1 (lr.trans l) ok1 (err.mono l)
/-- a statement whose way is never gone -/
theorem ss_never : SS X W st (fun _ _ => none) := ⟨_, ps_never, fun p env M σ o ok er h D k => by cases h⟩
theorem sb_never : SB X W sts (fun _ _ => none) := ⟨_, pss_never, fun p env M σ o ok er h D k => by cases h⟩
end
end BX

set_option Elab.async false
set_option linter.all false
set_option maxRecDepth 100000
set_option maxHeartbeats 2000000
/-! BX9: functions and their calls. -/
namespace BX
open PySem L2
open PyProof.Rows (envOfC)

abbrev Fn := List D → List MO → Option Out
def runFn (n : Nat) (body : FS) : Fn := fun args M => (body (args.map some ++ List.replicate (n - args.length) none) M).bind fun o => match o with
  | .nx _ m => some (.rt .non m)
  | .rt d m => some (.rt d m)
  | _ => none
/-- a def's promise: it does what F tells; np parameters -/
def spF (G : Gx) (cls : Nat → Value) (np : Nat) (F : Fn) : Sp := fun vs H Q E => ∃ (p : Ps) (M : List MO) (ds : List D) (o : Out), vs.length = np ∧ p.H = H ∧ Ok G p M ∧ Reps G.K p.S p.m vs ds ∧ F ds M = some o ∧
  match o with
  | .rt d M' => ∀ (q : Ps) (x : V), Le p q → Ok G q M' → Rep G.K q.S q.m x d → Q x q.H
  | .ex c => ∀ q : Ps, Le p q → E (cls c) none q.H
  | _ => False
abbrev noW : Nat → Hp → Prop := fun _ _ => False

section
variable {P : Program} {w : World} {K : PySem.W.Frag} {mg : Str → Option Value} {base : Heap} {x qual : Str} {st : Stmt} {f : Addr} {fd : FuncData} {N ps : List Str} {k : Nat} {cls : Nat → Value}
theorem envR_start {G : Gx} {p : Ps} {vs : List V} {ds : List D} (r : Reps G.K p.S p.m vs ds) (n : Nat) : EnvR G p (ds.map some ++ List.replicate n none) (vs.map some ++ List.replicate n none) := by
  refine ⟨by rw [List.length_append, List.length_append, List.length_map, List.length_map, r.length, List.length_replicate, List.length_replicate], fun i d h => ?_⟩
  by_cases hi : i < ds.length
  · rw [List.getElem?_append_left (by rw [List.length_map]; exact hi), List.getElem?_map] at h
    obtain ⟨d', h1, h2⟩ := map_some h
    cases h2
    obtain ⟨y, h3, h4⟩ := r.get h1
    refine ⟨y, ?_, h4⟩
    rw [List.getElem?_append_left (by rw [List.length_map, r.length]; exact hi), List.getElem?_map, h3]
    rfl
  · rw [List.getElem?_append_right (by rw [List.length_map]; omega), List.getElem?_replicate] at h
    split at h <;> cases h
/-- a def that raises nothing keeps its promise -/
theorem fn_ok (F : Fun K x qual st f fd) (S : FnScope N ps (defScope st)) {body : FS}
    (hb : ∀ (cdv : Value) (A : Around) (outer : List Env) (s : Shared) (H : Hp) (E : XK), Room k (A.deeper (envOfC qual (defScope st) s.heap.objs.size f cdv)) →
      SB (cxOf CX0 P w K mg base N qual (defScope st) f cdv A outer s H E).nox noW (defBody st) body) :
    FnOk P w K mg base CX0 (k + 1) f fd ps (spF ⟨P, w, K⟩ cls ps.length (runFn N.length body)) := by
  refine F.ok S (fun vs H Q E h => ?_) (fun cdv A outer s H vs Q E hr h => ?_)
  · obtain ⟨p, M, ds, o, e, _⟩ := h
    exact e
  · obtain ⟨p, M, ds, o, e0, rfl, ok, r, e1, ko⟩ := h
    obtain ⟨t, pt, vt⟩ := (hb cdv A outer s p.H E hr).ex
    refine ⟨t, pt, ?_⟩
    obtain ⟨o1, e2, e3⟩ := bind_some e1
    have er : EnvR ⟨P, w, K⟩ p (ds.map some ++ List.replicate (N.length - ds.length) none) (L2.start N vs) := by
      have h1 := envR_start r (N.length - ds.length)
      unfold L2.start
      rw [r.length]
      exact h1
    refine vt p _ M _ o1 ok er e2 _ ?_
    cases o1 with
    | nx en M1 =>
      cases e3
      exact fun q σ l ok1 _ => ko q .non l ok1 .non
    | rt d M1 =>
      cases e3
      exact fun q y l ok1 rx => ko q y l ok1 rx
    | _ => cases e3
end
end BX

set_option Elab.async false
set_option linter.all false
set_option maxRecDepth 100000
set_option maxHeartbeats 2000000
/-! BX10: calls of defs. -/
namespace BX
open PySem L2

/-- what a caller knows of a def: where it stands, its promise -/
structure Cal (P : Program) (w : World) (K : PySem.W.Frag) (mg : Str → Option Value) (base : Heap) (k : Nat) (x : Str) (ps : List Str) (sp : Sp) : Prop where
  ex : ∃ (f : Addr) (fd : FuncData), FnOk P w K mg base CX0 k f fd ps sp ∧ mg x = some (.ref f) ∧ PySem.W.keepIn K (.ref f) = true ∧ Binds K fd ps []
theorem Cal.mono {P : Program} {w : World} {K : PySem.W.Frag} {mg : Str → Option Value} {base : Heap} {j k : Nat} {x : Str} {ps : List Str} {sp : Sp} (c : Cal P w K mg base j x ps sp) (h : j ≤ k) : Cal P w K mg base k x ps sp := by
  obtain ⟨f, fd, h1, h2⟩ := c.ex
  exact ⟨f, fd, h1.mono h, h2⟩

/-! ### what is handed in: data as it is, mutable objects by their places -/
def prep : List Bool → List D → Nat → Option (List D × List Nat)
  | true :: bs, .loc k :: ds, i => (prep bs ds (i + 1)).map fun r => (.loc i :: r.1, k :: r.2)
  | false :: bs, d :: ds, i => if nl d = true then (prep bs ds i).map fun r => (d :: r.1, r.2) else none
  | [], [], _ => some ([], [])
  | _, _, _ => none
def moNl : MO → Bool
  | .lst ds => nls ds
  | .dct _ => true
  | .tbl _ => true
  | .ins _ fs => fs.all fun q => nl q.2
def getAll (M : List MO) : List Nat → Option (List MO)
  | [] => some []
  | k :: ks => match M[k]? with
    | some o => if moNl o = true then (getAll M ks).map fun os => o :: os else none
    | none => none
def putAll : List MO → List Nat → List MO → Option (List MO)
  | M, k :: ks, o :: os => if moNl o = true then putAll (M.set k o) ks os else none
  | M, [], _ => some M
  | _, _ :: _, [] => none
def distinct : List Nat → Bool
  | [] => true
  | k :: ks => !(ks.contains k) && distinct ks
/-- resolved, but for the first j objects -/
def lkF (j : Nat) : Nat → List MO → Nat → Option D
  | 0, _, _ => none
  | n + 1, M, k => if k < j then none else match M[k]? with
    | some (.lst ds) => (rsvs (lkF j n M) ds).map .lst
    | _ => none
def eCallF (F : Fn) (js : List Bool) (args : FA) (env : En) (M : List MO) : Option (D × List MO) := (args env M).bind fun r => (prep js r.1 0).bind fun pr => if distinct pr.2 = true then
    (getAll r.2 pr.2).bind fun M0 => (F pr.1 M0).bind fun o => match o with
      | .rt d M' => (rsv (lkF pr.2.length 4 M') d).bind fun d' => (putAll r.2 pr.2 M').map fun M2 => (d', M2)
      | _ => none
  else none
/-- .. a new list that it hands back -/
def nCallF (F : Fn) (js : List Bool) (args : FA) (env : En) (M : List MO) : Option (List D × List MO) := (args env M).bind fun r => (prep js r.1 0).bind fun pr => if distinct pr.2 = true then
    (getAll r.2 pr.2).bind fun M0 => (F pr.1 M0).bind fun o => match o with
      | .rt (.loc k) M' => if k < pr.2.length then none else match M'[k]? with
        | some (.lst ds) => if nls ds = true then (putAll r.2 pr.2 M').map fun M2 => (ds, M2) else none
        | _ => none
      | _ => none
  else none

section
variable {G : Gx} {q r : Ps} {M M' : List MO}
theorem prep_ok : ∀ {js : List Bool} {ds : List D} {i : Nat} {es : List D} {ks : List Nat} {xs : List V} (pre : List Addr), pre.length = i → prep js ds i = some (es, ks) → Reps G.K q.S q.m xs ds →
    ∃ as : List Addr, as.length = ks.length ∧ (∀ (j k : Nat), ks[j]? = some k → q.m[k]? = as[j]?) ∧ Reps G.K q.S (pre ++ as) xs es ∧ es.length = ds.length
  | true :: bs, .loc k :: ds, i, es, ks, _, pre, hp, h, .cons h1 h2 => by
    rw [prep] at h
    obtain ⟨⟨es', ks'⟩, e1, e2⟩ := map_some h
    cases e2
    cases h1 with
    | @loc a _ hk =>
      obtain ⟨as, l1, l2, l3, l4⟩ := prep_ok (pre ++ [a]) (by simp [hp]) e1 h2
      refine ⟨a :: as, by simp [l1], fun j k' hj => ?_, .cons (.loc ?_) ?_, by simp [l4]⟩
      · cases j with
        | zero =>
          simp only [List.getElem?_cons_zero, Option.some.injEq] at hj ⊢
          subst hj
          exact hk
        | succ j =>
          simp only [List.getElem?_cons_succ] at hj ⊢
          exact l2 j k' hj
      · rw [← hp, List.getElem?_append_right (Nat.le_refl _)]
        simp
      · rw [List.append_assoc] at l3
        exact l3
  | false :: bs, d :: ds, i, es, ks, _, pre, hp, h, .cons h1 h2 => by
    rw [prep] at h
    split at h
    · rename_i hn
      obtain ⟨⟨es', ks'⟩, e1, e2⟩ := map_some h
      cases e2
      obtain ⟨as, l1, l2, l3, l4⟩ := prep_ok pre hp e1 h2
      exact ⟨as, l1, l2, .cons (h1.of_nl hn) l3, by simp [l4]⟩
    · cases h
  | [], [], i, es, ks, _, pre, hp, h, .nil => by
    cases h
    exact ⟨[], rfl, fun j k hj => by simp at hj, .nil, rfl⟩
  | true :: bs, .non :: ds, _, _, _, _, _, _, h, _ => by simp [prep] at h
  | true :: bs, .bl _ :: ds, _, _, _, _, _, _, h, _ => by simp [prep] at h
  | true :: bs, .int _ :: ds, _, _, _, _, _, _, h, _ => by simp [prep] at h
  | true :: bs, .str _ :: ds, _, _, _, _, _, _, h, _ => by simp [prep] at h
  | true :: bs, .lst _ :: ds, _, _, _, _, _, _, h, _ => by simp [prep] at h
  | true :: bs, .tup _ :: ds, _, _, _, _, _, _, h, _ => by simp [prep] at h
  | true :: bs, .frz _ :: ds, _, _, _, _, _, _, h, _ => by simp [prep] at h
  | true :: bs, .emp :: ds, _, _, _, _, _, _, h, _ => by simp [prep] at h
  | true :: bs, .obj _ _ :: ds, _, _, _, _, _, _, h, _ => by simp [prep] at h
  | _ :: _, [], _, _, _, _, _, _, h, _ => by simp [prep] at h
  | [], _ :: _, _, _, _, _, _, _, h, _ => by simp [prep] at h
theorem getAll_get : ∀ {ks : List Nat} {os : List MO}, getAll M ks = some os → os.length = ks.length ∧ ∀ (j k : Nat), ks[j]? = some k → ∃ o, M[k]? = some o ∧ os[j]? = some o ∧ moNl o = true
  | [], os, h => by cases h; exact ⟨rfl, fun j k hj => by simp at hj⟩
  | k :: ks, os, h => by
    rw [getAll] at h
    split at h
    · rename_i o ho
      split at h
      · rename_i hn
        obtain ⟨os', e1, e2⟩ := map_some h
        subst e2
        obtain ⟨l1, l2⟩ := getAll_get e1
        refine ⟨by simp [l1], fun j k' hj => ?_⟩
        cases j with
        | zero =>
          simp only [List.getElem?_cons_zero, Option.some.injEq] at hj ⊢
          subst hj
          exact ⟨o, ho, rfl, hn⟩
        | succ j =>
          simp only [List.getElem?_cons_succ] at hj ⊢
          exact l2 j k' hj
      · cases h
    · cases h
theorem putAll_get : ∀ {ks : List Nat} {os N N' : List MO}, putAll N ks os = some N' → distinct ks = true → N'.length = N.length ∧ (∀ (k : Nat), k ∉ ks → N'[k]? = N[k]?) ∧ (∀ (j k : Nat), ks[j]? = some k → k < N.length → ∃ o, os[j]? = some o ∧ N'[k]? = some o ∧ moNl o = true)
  | [], os, N, N', h, _ => by
    rw [putAll] at h
    cases h
    exact ⟨rfl, fun _ _ => rfl, fun j k hj => by simp at hj⟩
  | k :: ks, [], N, N', h, _ => by simp [putAll] at h
  | k :: ks, o :: os, N, N', h, hd => by
    rw [putAll] at h
    split at h
    · rename_i hn
      simp only [distinct, Bool.and_eq_true, Bool.not_eq_true', List.contains_eq_mem, decide_eq_false_iff_not] at hd
      obtain ⟨l1, l2, l3⟩ := putAll_get h hd.2
      rw [List.length_set] at l1
      refine ⟨l1, fun k' hk => ?_, fun j k' hj hl => ?_⟩
      · rw [List.mem_cons, not_or] at hk
        rw [l2 k' hk.2, List.getElem?_set_ne (fun e => hk.1 e.symm)]
      · cases j with
        | zero =>
          simp only [List.getElem?_cons_zero, Option.some.injEq] at hj ⊢
          subst hj
          refine ⟨o, rfl, ?_, hn⟩
          rw [l2 k hd.1, List.getElem?_set_self hl]
        | succ j =>
          simp only [List.getElem?_cons_succ] at hj ⊢
          exact l3 j k' hj (by rw [List.length_set]; exact hl)
    · cases h
theorem MOR.of_moNl {p p' : Ps} {a : Addr} {o : MO} (hn : moNl o = true) (hS : ∀ a o, p.S a = some o → p'.S a = some o) (hH : ∀ o, p.H a = some o → p'.H a = some o) (r : MOR G p a o) : MOR G p' a o := by
  cases o with
  | lst ds =>
    obtain ⟨xs, h1, h2⟩ := r
    have h3 : Reps G.K p.S [] xs ds := h2.of_nl hn
    exact ⟨xs, hH _ h1, (h3.mono (m' := []) hS fun _ _ z => by simp at z).of_nl hn⟩
  | dct kvs => exact DOk.mono hS hH r
  | tbl x =>
    obtain ⟨h0, ps, h1, h2, h3⟩ := r
    exact ⟨h0, ps, hH _ h1, h2, fun pos cv z => let ⟨c, e1, e2⟩ := h3 pos cv z; ⟨c, e1, hS _ _ e2⟩⟩
  | ins x fs =>
    obtain ⟨C, dx, vs, h1, h2, h3⟩ := r
    refine ⟨C, dx, vs, hH _ h1, h2, ?_⟩
    have hn' : ∀ q ∈ fs, nl q.2 = true := fun q hq => List.all_eq_true.mp hn q hq
    clear hn h1
    induction h3 with
    | nil => exact .nil
    | cons a1 a2 ih =>
      have r1 : Rep G.K p.S [] _ _ := a1.2.of_nl (hn' _ List.mem_cons_self)
      exact .cons ⟨a1.1, (r1.mono (m' := []) hS fun _ _ z => by simp at z).of_nl (hn' _ List.mem_cons_self)⟩ (ih fun q hq => hn' q (List.mem_cons_of_mem _ hq))
theorem distinct_nodup : ∀ {ks : List Nat}, distinct ks = true → ks.Nodup
  | [], _ => .nil
  | k :: ks, h => by
    simp only [distinct, Bool.and_eq_true, Bool.not_eq_true', List.contains_eq_mem, decide_eq_false_iff_not] at h
    exact List.nodup_cons.mpr ⟨h.1, distinct_nodup h.2⟩
/-- the callee's state -/
theorem callee_ok {as : List Addr} {ks : List Nat} {M0 : List MO} (ok : Ok G q M) (hl : as.length = ks.length) (ha : ∀ (j k : Nat), ks[j]? = some k → q.m[k]? = as[j]?) (hd : distinct ks = true) (hg : getAll M ks = some M0) : Ok G ⟨as, q.S, q.H⟩ M0 := by
  obtain ⟨l1, l2⟩ := getAll_get hg
  have ham : ∀ (j : Nat) (a : Addr), as[j]? = some a → ∃ k, ks[j]? = some k ∧ q.m[k]? = some a := fun j a h => by
    have hj : j < ks.length := by rw [← hl]; exact (List.getElem?_eq_some_iff.mp h).1
    refine ⟨ks[j], List.getElem?_eq_getElem hj, ?_⟩
    rw [ha j ks[j] (List.getElem?_eq_getElem hj), h]
  refine ⟨ok.sub, ?_, fun a h => ?_, by show as.length = M0.length; rw [hl, l1], fun j a o e1 e2 => ?_⟩
  · show as.Nodup
    refine List.pairwise_iff_getElem.mpr fun i j hi2 hj hij e' => ?_
    obtain ⟨k1, h1, h2⟩ := ham i as[i] (List.getElem?_eq_getElem hi2)
    obtain ⟨k2, h3, h4⟩ := ham j as[j] (List.getElem?_eq_getElem hj)
    rw [e'] at h2
    obtain ⟨b1, b2⟩ := List.getElem?_eq_some_iff.mp h2
    obtain ⟨b3, b4⟩ := List.getElem?_eq_some_iff.mp h4
    have ek : k1 = k2 := (List.getElem_inj ok.nd).mp (b2.trans b4.symm)
    subst ek
    obtain ⟨c1, c2⟩ := List.getElem?_eq_some_iff.mp h1
    obtain ⟨c3, c4⟩ := List.getElem?_eq_some_iff.mp h3
    have := (List.getElem_inj (distinct_nodup hd)).mp (c2.trans c4.symm)
    omega
  · obtain ⟨j, hj, e⟩ := List.getElem_of_mem h
    obtain ⟨k, _, h2⟩ := ham j a (by rw [← e]; exact List.getElem?_eq_getElem hj)
    exact ok.apart a (List.mem_of_getElem? h2)
  · obtain ⟨k, h1, h2⟩ := ham j a e1
    obtain ⟨o', h3, h4, h5⟩ := l2 j k h1
    have e2' : M0[j]? = some o := e2
    rw [h4] at e2'
    cases e2'
    exact MOR.of_moNl (p := q) h5 (fun _ _ z => z) (fun _ z => z) (ok.at_ k a _ h2 h3)
/-- the caller's state behind a call: S' is r.S, or r.S with some of the new lists -/
theorem caller_ok {as : List Addr} {ks : List Nat} {M0 N : List MO} {S' : Hp} (ok : Ok G q M) (hl : as.length = ks.length) (ha : ∀ (j k : Nat), ks[j]? = some k → q.m[k]? = as[j]?) (hd : distinct ks = true) (hg : getAll M ks = some M0)
    (l : Le ⟨as, q.S, q.H⟩ r) (okr : Ok G r M') (hp : putAll M ks M' = some N) (h1 : ∀ a o, r.S a = some o → S' a = some o) (h2 : ∀ a o, S' a = some o → r.S a = some o ∨ (q.H a = none ∧ r.H a = some o)) :
    Le q ⟨q.m, S', r.H⟩ ∧ Ok G ⟨q.m, S', r.H⟩ N := by
  obtain ⟨p1, p2, p3⟩ := putAll_get hp hd
  obtain ⟨g1, g2⟩ := getAll_get hg
  have has : ∀ a, a ∈ as → a ∈ q.m := fun a h => by
    obtain ⟨j, hj, e⟩ := List.getElem_of_mem h
    have hj2 : j < ks.length := by rw [← hl]; exact hj
    have := ha j ks[j] (List.getElem?_eq_getElem hj2)
    rw [List.getElem?_eq_getElem hj, e] at this
    exact List.mem_of_getElem? this
  have hmH : ∀ a, a ∈ q.m → ∃ o, q.H a = some o := fun a h => by
    cases e : q.H a with
    | some o => exact ⟨o, rfl⟩
    | none => exact absurd h (ok.not_m e)
  have sS : ∀ a o, q.S a = some o → S' a = some o := fun a o h => h1 a o (l.sh a o h)
  refine ⟨⟨⟨[], by simp⟩, sS, fun a o e1 e2 => ?_, fun a o e1 e2 => ?_, fun a o e => l.dm a o e, fun a h => .inl h⟩, ⟨fun a o e => ?_, ok.nd, fun a h => ?_, by show q.m.length = N.length; rw [p1, ok.len], fun k a o e1 e2 => ?_⟩⟩
  · show S' a = none
    cases e : S' a with
    | none => rfl
    | some u =>
      rcases h2 a u e with h | ⟨h, _⟩
      · have h3 : q.S a = none := e1
        have h4 : q.H a = some o := e2
        have := l.nw a o h3 h4
        rw [h] at this; cases this
      · have h4 : q.H a = some o := e2
        rw [h] at h4; cases h4
  · exact l.fr a o e1 fun z => e2 (has a z)
  · have e' : S' a = some o := e
    rcases h2 a o e' with h | ⟨_, h⟩
    · exact okr.sub a o h
    · exact h
  · show S' a = none
    have h3 := ok.apart a h
    obtain ⟨o, h4⟩ := hmH a h
    cases e : S' a with
    | none => rfl
    | some u =>
      rcases h2 a u e with h5 | ⟨h5, _⟩
      · have := l.nw a o h3 h4
        rw [h5] at this; cases this
      · rw [h5] at h4; cases h4
  · have e1' : q.m[k]? = some a := e1
    have hk : k < M.length := by rw [← ok.len]; exact (List.getElem?_eq_some_iff.mp e1').1
    by_cases hks : k ∈ ks
    · obtain ⟨j, hj, ej⟩ := List.getElem_of_mem hks
      have hjk : ks[j]? = some k := by rw [← ej]; exact List.getElem?_eq_getElem hj
      obtain ⟨o', h3, h4, h5⟩ := p3 j k hjk hk
      rw [h4] at e2
      cases e2
      have haj : as[j]? = some a := by rw [← ha j k hjk]; exact e1'
      have hrj : r.m[j]? = some a := l.mget haj
      exact MOR.of_moNl (p := r) h5 h1 (fun _ z => z) (okr.at_ j a _ hrj h3)
    · rw [p2 k hks] at e2
      have h3 := ok.at_ k a o e1' e2
      have ham : a ∉ as := fun z => by
        obtain ⟨j, hj, ej⟩ := List.getElem_of_mem z
        have hj2 : j < ks.length := by rw [← hl]; exact hj
        have h4 := ha j ks[j] (List.getElem?_eq_getElem hj2)
        rw [List.getElem?_eq_getElem hj, ej] at h4
        obtain ⟨b1, b2⟩ := List.getElem?_eq_some_iff.mp h4
        obtain ⟨b3, b4⟩ := List.getElem?_eq_some_iff.mp e1'
        have ek : ks[j] = k := (List.getElem_inj ok.nd).mp (b2.trans b4.symm)
        exact hks (by rw [← ek]; exact List.getElem_mem hj2)
      cases o with
      | lst ds =>
        obtain ⟨xs, h4, h5⟩ := h3
        exact ⟨xs, l.fr a _ h4 ham, h5.mono sS fun _ _ z => z⟩
      | dct kvs => exact DOk.mono sS (fun o z => l.fr a o z ham) h3
      | tbl x =>
        obtain ⟨h0, ps, h4, h5, h6⟩ := h3
        exact ⟨h0, ps, l.fr a _ h4 ham, h5, fun pos cv z => let ⟨c, e1, e2⟩ := h6 pos cv z; ⟨c, e1, sS _ _ e2⟩⟩
      | ins x fs =>
        obtain ⟨C, dx, vs, h4, h5, h6⟩ := h3
        exact ⟨C, dx, vs, l.fr a _ h4 ham, h5, Paired.mapP h6 fun u v z => ⟨z.1, z.2.mono sS fun _ _ z => z⟩⟩
end
theorem lkF_ok {G : Gx} {r : Ps} {M : List MO} {j : Nat} {S' : Hp} {m' : List Addr} (ok : Ok G r M) (sub : ∀ a o, r.S a = some o → S' a = some o) (hS : ∀ (k : Nat) a o, j ≤ k → r.m[k]? = some a → r.H a = some o → S' a = some o) :
    ∀ (n k : Nat) (a : Addr) (d : D), r.m[k]? = some a → lkF j n M k = some d → Rep G.K S' m' (.ref a) d
  | 0, _, _, _, _, h => by cases h
  | n + 1, k, a, d, h1, h => by
    rw [lkF] at h
    split at h
    · cases h
    · rename_i hj
      split at h
      · rename_i ds e
        obtain ⟨es, e1, e2⟩ := map_some h
        subst e2
        obtain ⟨xs, h2, h3⟩ := ok.lst h1 e
        exact .lst (hS k a _ (Nat.le_of_not_lt hj) h1 h2) (rsvs_ok sub (lkF_ok ok sub hS n) h3 e1)
      · cases h

section
variable {X : Cx} {e : Expr} {es : List Expr} {pos : Pos} {fs : FA} {x : Str} {k : Nat} {ps : List Str} {F : Fn} {js : List Bool} {np : Nat} {cls : Nat → Value}
theorem ev_call {G : Gx} {ta : TA} {E : XK} (h : EvA G ta fs) (hn : ∀ env M ds M', fs env M = some (ds, M') → ds.length = np) : Ev G (tCall (spF G cls np F) [] E ta) (eCallF F js fs) := by
  intro p env M σ d N ok er h1 Q kk
  obtain ⟨⟨ds, M1⟩, e1, h1⟩ := bind_some h1
  obtain ⟨⟨ds', ks⟩, e2, h1⟩ := bind_some h1
  split at h1
  · rename_i hd
    obtain ⟨M0, e3, h1⟩ := bind_some h1
    obtain ⟨o, e4, h1⟩ := bind_some h1
    split at h1
    · rename_i d1 M' 
      obtain ⟨d2, e5, h1⟩ := bind_some h1
      obtain ⟨N', e6, h1⟩ := map_some h1
      cases h1
      refine h p env M σ ds M1 ok er e1 _ fun q xs l m ok1 r => ?_
      obtain ⟨as, a1, a2, a3, a4⟩ := prep_ok [] rfl e2 r
      simp only [List.nil_append] at a3
      refine ⟨⟨as, q.S, q.H⟩, M0, ds', .rt d1 M', ?_, rfl, callee_ok ok1 a1 a2 hd e3, ?_, e4, fun w y l2 ok2 ry => ?_⟩
      · rw [List.append_nil, r.length]
        exact hn _ _ _ _ e1
      · rw [List.append_nil]
        exact a3
      · -- what was made mutable by the callee is frozen
        let S' : Hp := fun a => match w.S a with
          | some o => some o
          | none => if a ∈ w.m.drop ks.length then w.H a else none
        have s1 : ∀ a o, w.S a = some o → S' a = some o := fun a o z => by show (match w.S a with | some o => some o | none => _) = some o; rw [z]
        have hnew : ∀ a, a ∈ w.m.drop ks.length → q.H a = none := fun a ha => by
          rcases l2.nm a (List.mem_of_mem_drop ha) with z | z
          · obtain ⟨t, ht⟩ := l2.m
            have ht' : w.m = as ++ t := ht
            rw [ht', ← a1, List.drop_left] at ha
            have nd := ok2.nd
            rw [ht', List.nodup_append] at nd
            exact absurd rfl (nd.2.2 a z a ha)
          · exact z
        have s2 : ∀ a o, S' a = some o → w.S a = some o ∨ (q.H a = none ∧ w.H a = some o) := fun a o z => by
          have z' : (match w.S a with | some o => some o | none => if a ∈ w.m.drop ks.length then w.H a else none) = some o := z
          split at z'
          · rename_i o' h'
            exact .inl (by rw [h']; exact z')
          · split at z'
            · rename_i hm
              exact .inr ⟨hnew a hm, z'⟩
            · cases z'
        obtain ⟨l3, ok3⟩ := caller_ok ok1 a1 a2 hd e3 l2 ok2 e6 s1 s2
        refine kk ⟨q.m, S', w.H⟩ y (l.trans l3) m ok3 (rsv_ok s1 (lkF_ok ok2 s1 (fun j a o hj h3 h4 => ?_) 4) ry e5)
        have hj' : ks.length ≤ j := hj
        have ha : a ∈ w.m.drop ks.length := by
          obtain ⟨b1, b2⟩ := List.getElem?_eq_some_iff.mp h3
          rw [← b2]
          refine List.mem_of_getElem? (i := j - ks.length) ?_
          rw [List.getElem?_drop, show ks.length + (j - ks.length) = j by omega]
          exact List.getElem?_eq_getElem b1
        have hS : w.S a = none := ok2.apart a (List.mem_of_mem_drop ha)
        show (match w.S a with | some o => some o | none => if a ∈ w.m.drop ks.length then w.H a else none) = some o
        rw [hS]
        simp only [if_pos ha]
        exact h4
    · cases h1
  · cases h1
theorem evn_call {G : Gx} {ta : TA} {E : XK} (h : EvA G ta fs) (hn : ∀ env M ds M', fs env M = some (ds, M') → ds.length = np) : EvN G (tCall (spF G cls np F) [] E ta) (nCallF F js fs) := by
  intro p env M σ d N ok er h1 Q kk
  obtain ⟨⟨ds, M1⟩, e1, h1⟩ := bind_some h1
  obtain ⟨⟨ds', ks⟩, e2, h1⟩ := bind_some h1
  split at h1
  · rename_i hd
    obtain ⟨M0, e3, h1⟩ := bind_some h1
    obtain ⟨o, e4, h1⟩ := bind_some h1
    split at h1
    · rename_i k1 M'
      split at h1
      · cases h1
      · rename_i hk1
        split at h1
        · rename_i ds2 hm2
          split at h1
          · rename_i hnl
            obtain ⟨N', e6, h1⟩ := map_some h1
            cases h1
            refine h p env M σ ds M1 ok er e1 _ fun q xs l m ok1 r => ?_
            obtain ⟨as, a1, a2, a3, a4⟩ := prep_ok [] rfl e2 r
            simp only [List.nil_append] at a3
            refine ⟨⟨as, q.S, q.H⟩, M0, ds', .rt (.loc k1) M', ?_, rfl, callee_ok ok1 a1 a2 hd e3, ?_, e4, fun w y l2 ok2 ry => ?_⟩
            · rw [List.append_nil, r.length]
              exact hn _ _ _ _ e1
            · rw [List.append_nil]
              exact a3
            · obtain ⟨l3, ok3⟩ := caller_ok (S' := w.S) ok1 a1 a2 hd e3 l2 ok2 e6 (fun _ _ z => z) fun a o z => .inl z
              cases ry with
              | @loc a _ hk =>
                obtain ⟨ys, h2, h3⟩ := ok2.lst hk hm2
                have ha : q.H a = none := by
                  rcases l2.nm a (List.mem_of_getElem? hk) with z | z
                  · obtain ⟨t, ht⟩ := l2.m
                    have ht' : w.m = as ++ t := ht
                    obtain ⟨j, hj, ej⟩ := List.getElem_of_mem z
                    have hw : w.m[j]? = some a := by rw [ht', List.getElem?_append_left hj, ← ej]; exact List.getElem?_eq_getElem hj
                    obtain ⟨b1, b2⟩ := List.getElem?_eq_some_iff.mp hw
                    obtain ⟨b3, b4⟩ := List.getElem?_eq_some_iff.mp hk
                    have := (List.getElem_inj ok2.nd).mp (b2.trans b4.symm)
                    have hj2 : j < as.length := hj
                    have hk2 : ¬ k1 < ks.length := hk1
                    omega
                  · exact z
                exact kk ⟨q.m, w.S, w.H⟩ a ys (l.trans l3) (ok1.not_m ha) (l.fresh ha) (ok2.apart a (List.mem_of_getElem? hk)) ok3 h2 (h3.of_nl hnl)
          · cases h1
        · cases h1
    · cases h1
  · cases h1
/-- how many arguments there are -/
structure SAn (X : Cx) (es : List Expr) (f : FA) (n : Nat) : Prop where
  a : SA X es f
  n : ∀ env M ds M', f env M = some (ds, M') → ds.length = n
theorem san_nil : SAn X [] aNil 0 := ⟨sa_nil, fun env M ds M' h => by cases h; rfl⟩
theorem san_cons {fa : FE} {n : Nat} (ha : SE X e fa) (hr : SAn X es fs n) (hs : starEach (e :: es) X.env = (false, eval e X.env) :: starEach es X.env := by rfl) : SAn X (e :: es) (aCons fa fs) (n + 1) := by
  refine ⟨sa_cons ha hr.a hs, fun env M ds M' h => ?_⟩
  obtain ⟨⟨d1, M1⟩, e1, h⟩ := bind_some h
  obtain ⟨⟨d2, M2⟩, e2, h⟩ := map_some h
  cases h
  rw [List.length_cons, hr.n _ _ _ _ e2]
theorem se_call {q : Pos} {n : Nat} (c : Cal X.prog X.w X.K X.mg X.base k x ps (spF (gx X) cls n F)) (js : List Bool) (ha : SAn X (e :: es) fs n) (hr : Room k X.A) (hg : Gl X x) (hdb : (x == ("__debug__" : Str)) = false := by decide)
    (he : starEach (e :: es) X.env = (false, eval e X.env) :: starEach es X.env := by rfl) (hpl : (backTo pos (starEach es X.env)).any (·.1) = false := by rfl) : SE X (.Call (.Name x q) (e :: es) [] pos) (eCallF F js fs) := by
  obtain ⟨t, pt, vt⟩ := ha.a.ex
  obtain ⟨f, fd, F1, hm, hk, hb⟩ := c.ex
  exact ⟨_, pe_call F1 hr hg hm hk hb .nil pass0 pt hdb he hpl, ev_call vt ha.n⟩
theorem sn_call {q : Pos} {n : Nat} (c : Cal X.prog X.w X.K X.mg X.base k x ps (spF (gx X) cls n F)) (js : List Bool) (ha : SAn X (e :: es) fs n) (hr : Room k X.A) (hg : Gl X x) (hdb : (x == ("__debug__" : Str)) = false := by decide)
    (he : starEach (e :: es) X.env = (false, eval e X.env) :: starEach es X.env := by rfl) (hpl : (backTo pos (starEach es X.env)).any (·.1) = false := by rfl) : SN X (.Call (.Name x q) (e :: es) [] pos) (nCallF F js fs) := by
  obtain ⟨t, pt, vt⟩ := ha.a.ex
  obtain ⟨f, fd, F1, hm, hk, hb⟩ := c.ex
  exact ⟨_, pe_call F1 hr hg hm hk hb .nil pass0 pt hdb he hpl, evn_call vt ha.n⟩
end
end BX

set_option Elab.async false
set_option linter.all false
set_option maxRecDepth 100000
set_option maxHeartbeats 2000000
/-! BX11: new lists, changes of lists, methods, isinstance. -/
namespace BX
open PySem L2

/-! ### new lists -/
def nLst (as : FA) (env : En) (M : List MO) : Option (List D × List MO) := (as env M).bind fun r => if lim r.1.length = true then some r else none
def nBin (g : List MO → D → D → Option (List D)) (a b : FE) (env : En) (M : List MO) : Option (List D × List MO) := (a env M).bind fun r => (b env r.2).bind fun s => (g s.2 r.1 s.1).map fun z => (z, s.2)
def nCall (g : List MO → List D → Option (List D)) (as : FA) (env : En) (M : List MO) : Option (List D × List MO) := (as env M).bind fun r => (g r.2 r.1).map fun z => (z, r.2)
def nSl (a : FE) (lo hi : FO) (env : En) (M : List MO) : Option (List D × List MO) := (a env M).bind fun r => (lo env r.2).bind fun s => (hi env s.2).bind fun t => (asR t.2 r.1).map fun xs => (cutD xs s.1 t.1, t.2)
def RBn (G : Gx) (r : R2) (g : List MO → D → D → Option (List D)) : Prop := ∀ (p : Ps) (M : List MO) (x y : V) (d e : D) (z : List D), Ok G p M → Rep G.K p.S p.m x d → Rep G.K p.S p.m y e → g M d e = some z →
  ∀ Q : VK, (∀ (a : Addr) (xs : List V), p.H a = none → Reps G.K p.S p.m xs z → Q (.ref a) (upd p.H a (.lst xs))) → r x y p.H Q
def RCn (G : Gx) (r : List V → Hp → VK → Prop) (g : List MO → List D → Option (List D)) : Prop := ∀ (p : Ps) (M : List MO) (xs : List V) (ds : List D) (z : List D), Ok G p M → Reps G.K p.S p.m xs ds → g M ds = some z →
  ∀ Q : VK, (∀ (a : Addr) (xs : List V), p.H a = none → Reps G.K p.S p.m xs z → Q (.ref a) (upd p.H a (.lst xs))) → r xs p.H Q
/-- a new list's state -/
theorem fresh_new {G : Gx} {p q : Ps} {M : List MO} {a : Addr} {xs : List V} (l : Le p q) (ok : Ok G q M) (ha : q.H a = none) :
    Le p (q.put a (.lst xs)) ∧ p.H a = none ∧ a ∉ (q.put a (.lst xs)).m ∧ (q.put a (.lst xs)).S a = none ∧ Ok G (q.put a (.lst xs)) M ∧ (q.put a (.lst xs)).H a = some (.lst xs) :=
  ⟨l.trans (Le.pend ha), l.fresh ha, ok.not_m ha, ok.S_none ha, ok.pend (ok.S_none ha) (ok.not_m ha), upd_same⟩
section
variable {X : Cx} {e a b : Expr} {es : List Expr} {pos : Pos} {fa fb : FE} {fs : FA}
theorem sn_lst (h : SA X es fs) : SN X (.List es pos) (nLst fs) := by
  obtain ⟨t, pt, vt⟩ := h.ex
  refine ⟨_, pe_lst pt, fun p env M σ ds M' ok er h Q k => ?_⟩
  obtain ⟨⟨ds1, M1⟩, e1, h⟩ := bind_some h
  split at h
  · rename_i hl
    cases h
    refine vt p env M σ ds _ ok er e1 _ fun q xs l1 m1 ok1 x1 => ⟨by rw [x1.length]; exact lim_line hl, fun a ha => ?_⟩
    obtain ⟨f1, f2, f0, f3, f4, f5⟩ := fresh_new (xs := xs) l1 ok1 ha
    exact k (q.put a (.lst xs)) a xs f1 f0 f2 f3 f4 f5 x1
  · cases h
theorem evn_bin {G : Gx} {r : R2} {g : List MO → D → D → Option (List D)} {ta tb : TE} (hr : RBn G r g) (ha : Ev G ta fa) (hb : Ev G tb fb) : EvN G (tOp r ta tb) (nBin g fa fb) := by
  intro p env M σ ds M' ok er h Q k
  obtain ⟨⟨d1, M1⟩, h1, h⟩ := bind_some h
  obtain ⟨⟨d2, M2⟩, h2, h⟩ := bind_some h
  obtain ⟨z, h3, h⟩ := map_some h
  cases h
  refine ha p env M σ d1 M1 ok er h1 _ fun q x l1 m1 ok1 x1 => ?_
  refine hb q env M1 σ d2 _ ok1 (er.mono l1) h2 _ fun u y l2 m2 ok2 y2 => ?_
  refine hr u _ x y d1 d2 ds ok2 (l2.rep x1) y2 h3 Q fun a xs ha rx => ?_
  obtain ⟨f1, f2, f0, f3, f4, f5⟩ := fresh_new (xs := xs) (l1.trans l2) ok2 ha
  exact k (u.put a (.lst xs)) a xs f1 f0 f2 f3 f4 f5 rx
theorem sn_bin {op : Operator} {r : R2} {g : List MO → D → D → Option (List D)} (ho : OpR X (binaryOp op) r) (hr : RBn (gx X) r g) (ha : SE X a fa) (hb : SE X b fb) : SN X (.BinOp a op b pos) (nBin g fa fb) := by
  obtain ⟨ta, pa, va⟩ := ha.ex
  obtain ⟨tb, pb, vb⟩ := hb.ex
  exact ⟨_, pe_op ho pa pb, evn_bin hr va vb⟩
def gCatN (M : List MO) (d e : D) : Option (List D) := (asL M d).bind fun xs => (asL M e).bind fun ys => if lim (xs.length + ys.length) = true then some (xs ++ ys) else none
def gRepN (M : List MO) (d e : D) : Option (List D) := match e with
  | .int k => (asL M d).bind fun xs => if (decide (-(2 ^ 63) ≤ k) && decide (k < 2 ^ 63) && lim (xs.length * k.toNat)) = true then some (List.replicate k.toNat xs).flatten else none
  | _ => none
theorem rbn_cat {G : Gx} : RBn G rCat gCatN := by
  intro p M x y d e z ok rx ry h Q k
  obtain ⟨xs, h1, h⟩ := bind_some h
  obtain ⟨ys, h2, h⟩ := bind_some h
  split at h
  · rename_i hl
    cases h
    obtain ⟨a, us, rfl, h3, h4⟩ := asL_ok ok rx h1
    obtain ⟨b, vs, rfl, h5, h6⟩ := asL_ok ok ry h2
    exact ⟨a, b, us, vs, rfl, rfl, h3, h5, by rw [h4.length, h6.length]; exact lim_line hl, fun l hl => k l _ hl (h4.append h6)⟩
  · cases h
theorem rbn_rep {G : Gx} : RBn G rRep gRepN := by
  intro p M x y d e z ok rx ry h Q k
  cases e with
  | int i =>
    cases ry
    obtain ⟨xs, h1, h⟩ := bind_some h
    split at h
    · rename_i hl
      cases h
      simp only [Bool.and_eq_true, decide_eq_true_eq] at hl
      obtain ⟨⟨hl1, hl2⟩, hl3⟩ := hl
      obtain ⟨a, us, rfl, h3, h4⟩ := asL_ok ok rx h1
      exact ⟨a, i, us, rfl, rfl, h3, hl1, hl2, by rw [h4.length]; exact lim_line hl3, fun l hl => k l _ hl (h4.rep i.toNat)⟩
    · cases h
  | _ => cases h
theorem sn_cat (ha : SE X a fa) (hb : SE X b fb) : SN X (.BinOp a .Add b pos) (nBin gCatN fa fb) := sn_bin op_cat rbn_cat ha hb
theorem sn_rep (ha : SE X a fa) (hb : SE X b fb) : SN X (.BinOp a .Mult b pos) (nBin gRepN fa fb) := sn_bin op_rep rbn_rep ha hb
theorem evn_cb {G : Gx} {r : List V → Hp → VK → Prop} {g : List MO → List D → Option (List D)} {ta : TA} (hr : RCn G r g) (h : EvA G ta fs) : EvN G (tCB r ta) (nCall g fs) := by
  intro p env M σ ds M' ok er h1 Q k
  obtain ⟨⟨ds1, M1⟩, e1, h1⟩ := bind_some h1
  obtain ⟨z, e2, h1⟩ := map_some h1
  cases h1
  refine h p env M σ ds1 _ ok er e1 _ fun q xs l1 m1 ok1 x1 => ?_
  refine hr q _ xs ds1 ds ok1 x1 e2 Q fun a ys ha rx => ?_
  obtain ⟨f1, f2, f0, f3, f4, f5⟩ := fresh_new (xs := ys) l1 ok1 ha
  exact k (q.put a (.lst ys)) a ys f1 f0 f2 f3 f4 f5 rx
theorem sn_callB {x : Str} {id : String} {r : List V → Hp → VK → Prop} {g : List MO → List D → Option (List D)} {q : Pos} (hc : CallR X (.builtin id) r) (hr : RCn (gx X) r g) (hg : Gl X x) (hm : X.mg x = none) (hv : bootBuiltins x = some (.builtin id)) (ha : SA X (e :: es) fs)
    (hn : x ≠ "__name__" := by decide) (hdb : (x == ("__debug__" : Str)) = false := by decide) (he : starEach (e :: es) X.env = (false, eval e X.env) :: starEach es X.env := by rfl) (hpl : (backTo pos (starEach es X.env)).any (·.1) = false := by rfl) :
    SN X (.Call (.Name x q) (e :: es) [] pos) (nCall g fs) := by
  obtain ⟨t, pt, vt⟩ := ha.ex
  exact ⟨_, pe_callB hc hg hm hv pt hn hdb he hpl, evn_cb hr vt⟩
theorem sn_callTy {x : Str} {T : String} {r : List V → Hp → VK → Prop} {g : List MO → List D → Option (List D)} {q : Pos} (hc : CallR X (.type T) r) (hr : RCn (gx X) r g) (hg : Gl X x) (hm : X.mg x = none) (hv : bootBuiltins x = some (.type T)) (ha : SA X (e :: es) fs)
    (hn : x ≠ "__name__" := by decide) (hdb : (x == ("__debug__" : Str)) = false := by decide) (he : starEach (e :: es) X.env = (false, eval e X.env) :: starEach es X.env := by rfl) (hpl : (backTo pos (starEach es X.env)).any (·.1) = false := by rfl) :
    SN X (.Call (.Name x q) (e :: es) [] pos) (nCall g fs) := by
  obtain ⟨t, pt, vt⟩ := ha.ex
  exact ⟨_, pe_callTy hc hg hm hv pt hn hdb he hpl, evn_cb hr vt⟩
def gSortedN (M : List MO) : List D → Option (List D)
  | [d] => (asR M d).bind fun xs => if (srtOk xs && lim xs.length && nls xs) = true then some (srtD xs) else none
  | _ => none
theorem rcn_sorted {G : Gx} : RCn G (rSortedD G.K) gSortedN := by
  intro p M xs ds z ok r h Q k
  match ds, h with
  | [d], h =>
    obtain ⟨ys, h1, h⟩ := bind_some h
    split at h
    · rename_i hs
      cases h
      simp only [Bool.and_eq_true] at hs
      obtain ⟨x, rfl, rx⟩ := one_rep r
      obtain ⟨a, us, rfl, h3, h4⟩ := asR_ok ok rx h1
      exact ⟨a, p.S, us, ys, rfl, h3, ok.sub, h4.of_nl hs.2, hs.1.1, lim_line hs.1.2, fun vs l _ h5 hl => k l vs hl (h5.mono (fun _ _ z => z) fun _ _ z => by simp at z)⟩
    · cases h
def gListN (M : List MO) : List D → Option (List D)
  | [d] => asS M d
  | _ => none
theorem rcn_list {G : Gx} : RCn G (rListA G.K) gListN := by
  intro p M xs ds z ok r h Q k
  match ds, h with
  | [d], h =>
    obtain ⟨x, rfl, rx⟩ := one_rep r
    obtain ⟨a, us, rfl, h3, h4⟩ := asS_ok ok rx h
    exact ⟨a, us, rfl, h3, fun l hl => k l us hl h4⟩
theorem sn_sl {lo hi : Option Expr} {fl fh : FO} {p2 : Pos} (ha : SE X a fa) (hl : SO X lo fl) (hh : SO X hi fh) : SN X (.Subscript a (.Slice lo hi none p2) pos) (nSl fa fl fh) := by
  obtain ⟨ta, pa, va⟩ := ha.ex
  obtain ⟨tl, pl, vl⟩ := hl.ex
  obtain ⟨th, ph, vh⟩ := hh.ex
  refine ⟨_, pe_slice sl_list pa pl ph, fun p env M σ d M' ok er h Q k => ?_⟩
  obtain ⟨⟨d1, M1⟩, e1, h⟩ := bind_some h
  obtain ⟨⟨i, M2⟩, e2, h⟩ := bind_some h
  obtain ⟨⟨j, M3⟩, e3, h⟩ := bind_some h
  obtain ⟨xs, e4, h⟩ := map_some h
  cases h
  refine va p env M σ _ _ ok er e1 _ fun q x l1 m1 ok1 x1 => ?_
  refine vl q env M1 σ i M2 ok1 (er.mono l1) e2 _ fun q2 l2 m2 ok2 => ?_
  refine vh q2 env M2 σ j _ ok2 (er.mono (l1.trans l2)) e3 _ fun q3 l3 m3 ok3 => ?_
  obtain ⟨a, us, rfl, h3, h4⟩ := asR_ok ok3 ((l2.trans l3).rep x1) e4
  refine ⟨a, us, rfl, h3, fun l hl => ?_⟩
  obtain ⟨f1, f2, f0, f3, f4, f5⟩ := fresh_new (xs := cutV us i j) (l1.trans (l2.trans l3)) ok3 hl
  exact k (q3.put l (.lst (cutV us i j))) l _ f1 f0 f2 f3 f4 f5 (cut_rep i j h4)
end

/-! ### methods of lists that change them -/
def locL (M : List MO) : D → Option (Nat × List D)
  | .loc k => match M[k]? with
    | some (.lst xs) => some (k, xs)
    | _ => none
  | _ => none
theorem locL_ok {G : Gx} {p : Ps} {M : List MO} {x : V} {d : D} {k : Nat} {ds : List D} (ok : Ok G p M) (r : Rep G.K p.S p.m x d) (h : locL M d = some (k, ds)) : ∃ a xs, x = .ref a ∧ p.m[k]? = some a ∧ p.H a = some (.lst xs) ∧ Reps G.K p.S p.m xs ds := by
  cases r with
  | @loc a j h1 =>
    unfold locL at h
    simp only at h
    split at h
    · rename_i xs e
      cases h
      obtain ⟨ys, h2, h3⟩ := ok.lst h1 e
      exact ⟨a, ys, rfl, h1, h2, h3⟩
    · cases h
  | _ => cases h
/-- a list at a loc is changed -/
theorem put_lst {G : Gx} {p : Ps} {M : List MO} {a : Addr} {k : Nat} {xs : List V} {ds : List D} (ok : Ok G p M) (hk : p.m[k]? = some a) (r : Reps G.K p.S p.m xs ds) : Le p (p.put a (.lst xs)) ∧ Ok G (p.put a (.lst xs)) (M.set k (.lst ds)) :=
  ⟨Le.put (List.mem_of_getElem? hk), ok.put hk ⟨xs, upd_same, r⟩⟩
/-- o.m(e, ..): what it answers, and the changed store -/
def RMc (G : Gx) (r : V → List V → Hp → VK → Prop) (g : List MO → D → List D → Option (D × List MO)) : Prop := ∀ (p : Ps) (M : List MO) (x : V) (xs : List V) (d : D) (ds : List D) (z : D) (M' : List MO), Ok G p M → Rep G.K p.S p.m x d → Reps G.K p.S p.m xs ds → g M d ds = some (z, M') →
  ∀ Q : VK, (∀ (q : Ps) (v : V), Le p q → q.z = p.z → Ok G q M' → Rep G.K q.S q.m v z → Q v q.H) → r x xs p.H Q
def eMc (g : List MO → D → List D → Option (D × List MO)) (o : FE) (as : FA) (env : En) (M : List MO) : Option (D × List MO) := (o env M).bind fun r => match asR r.2 r.1 with
  | some _ => (as env r.2).bind fun s => g s.2 r.1 s.1
  | none => none
section
variable {X : Cx} {e o : Expr} {es : List Expr} {apos pos : Pos} {fo : FE} {fs : FA} {id : String} {name : Str} {r : V → List V → Hp → VK → Prop} {g : List MO → D → List D → Option (D × List MO)}
theorem se_bm (slot : Slot "list" name id) (hty : typeOf (.builtin id) = pure (.type "method_descriptor")) (hm : MtR X id r) (hr : RMc (gx X) r g) (ho : SE X o fo) (ha : SA X (e :: es) fs)
    (hbase : attributeBase o name X.env (eval o X.env) = eval o X.env := by rfl)
    (hfew : ((backTo pos (starEach (e :: es) X.env)).all (fun x => !x.1) && (backToKw pos (keywordEach [] X.env)).all (fun x => x.1.isSome)
      && decide ((e :: es).length + ([] : List Keyword).length + (if ([] : List Keyword).isEmpty then 0 else 1) < 30)) = true := by rfl)
    (hline : (apos.endLine == pos.line) = true := by rfl) (hs : starEach (e :: es) X.env = (false, eval e X.env) :: starEach es X.env := by rfl) (hplain : (backTo pos (starEach es X.env)).any (·.1) = false := by rfl) :
    SE X (.Call (.Attribute o name apos) (e :: es) [] pos) (eMc g fo fs) := by
  obtain ⟨t, pt, vt⟩ := ho.ex
  obtain ⟨u, pu, vu⟩ := ha.ex
  refine ⟨_, pe_bm PySem.F.plainAttrs_list slot hty hm pt pu hbase hfew hline hs hplain, fun p env M σ d M' ok er h Q k => ?_⟩
  obtain ⟨⟨d1, M1⟩, e1, h⟩ := bind_some h
  refine vt p env M σ d1 M1 ok er e1 _ fun q x l m ok1 rx => ?_
  simp only at h
  split at h
  · rename_i ys hy
    obtain ⟨a, us, rfl, h3, _⟩ := asR_ok ok1 rx hy
    refine ⟨.inl ⟨rfl, us, h3⟩, ?_⟩
    obtain ⟨⟨d2, M2⟩, e2, h⟩ := bind_some h
    refine vu q env M1 σ d2 M2 ok1 (er.mono l) e2 _ fun q2 xs l2 m2 ok2 rxs => ?_
    exact hr q2 M2 _ xs d1 d2 d M' ok2 (l2.rep rx) rxs h Q fun w v l3 m3 ok3 rv => k w v ((l.trans l2).trans l3) (m3.trans (m2.trans m)) ok3 rv
  · cases h
theorem se_bm0 (slot : Slot "list" name id) (hty : typeOf (.builtin id) = pure (.type "method_descriptor")) (hm : MtR X id r) (hr : RMc (gx X) r g) (ho : SE X o fo)
    (hbase : attributeBase o name X.env (eval o X.env) = eval o X.env := by rfl) (hline : (apos.endLine == pos.line) = true := by rfl) : SE X (.Call (.Attribute o name apos) [] [] pos) (eMc g fo aNil) := by
  obtain ⟨t, pt, vt⟩ := ho.ex
  refine ⟨_, pe_bm0 PySem.F.plainAttrs_list slot hty hm pt hbase hline, fun p env M σ d M' ok er h Q k => ?_⟩
  obtain ⟨⟨d1, M1⟩, e1, h⟩ := bind_some h
  refine vt p env M σ d1 M1 ok er e1 _ fun q x l m ok1 rx => ?_
  simp only at h
  split at h
  · rename_i ys hy
    obtain ⟨a, us, rfl, h3, _⟩ := asR_ok ok1 rx hy
    refine ⟨.inl ⟨rfl, us, h3⟩, ?_⟩
    exact hr q M1 _ [] d1 [] d M' ok1 rx .nil h Q fun w v l3 m3 ok3 rv => k w v (l.trans l3) (m3.trans m) ok3 rv
  · cases h
end
section
variable {G : Gx}
def gApp (M : List MO) (d : D) : List D → Option (D × List MO)
  | [e] => (locL M d).bind fun r => if lim r.2.length = true then some (.non, M.set r.1 (.lst (r.2 ++ [e]))) else none
  | _ => none
theorem rm_app : RMc G rAppend gApp := by
  intro p M x xs d ds z M' ok rx rs h Q k
  match ds, h with
  | [e], h =>
    obtain ⟨⟨n, ys⟩, h1, h⟩ := bind_some h
    split at h
    · rename_i hl
      cases h
      obtain ⟨y, rfl, ry⟩ := one_rep rs
      obtain ⟨a, us, rfl, h2, h3, h4⟩ := locL_ok ok rx h1
      obtain ⟨l, ok'⟩ := put_lst ok h2 (h4.snoc ry)
      exact ⟨a, us, y, rfl, rfl, h3, by rw [h4.length]; exact lim_lt hl, k (p.put a (.lst (us ++ [y]))) .non l rfl ok' .non⟩
    · cases h
def gExt (M : List MO) (d : D) : List D → Option (D × List MO)
  | [e] => (locL M d).bind fun r => (asL M e).bind fun ys => if lim (r.2.length + ys.length) = true then some (.non, M.set r.1 (.lst (r.2 ++ ys))) else none
  | _ => none
theorem rm_ext : RMc G rExtend gExt := by
  intro p M x xs d ds z M' ok rx rs h Q k
  match ds, h with
  | [e], h =>
    obtain ⟨⟨n, ys⟩, h1, h⟩ := bind_some h
    obtain ⟨zs, h5, h⟩ := bind_some h
    split at h
    · rename_i hl
      cases h
      obtain ⟨y, rfl, ry⟩ := one_rep rs
      obtain ⟨a, us, rfl, h2, h3, h4⟩ := locL_ok ok rx h1
      obtain ⟨b, vs, rfl, h6, h7⟩ := asL_ok ok ry h5
      obtain ⟨l, ok'⟩ := put_lst ok h2 (h4.append h7)
      exact ⟨a, b, us, vs, rfl, rfl, h3, h6, by rw [h4.length, h7.length]; exact lim_line hl, k (p.put a (.lst (us ++ vs))) .non l rfl ok' .non⟩
    · cases h
def gPop (M : List MO) (d : D) : List D → Option (D × List MO)
  | [] => (locL M d).bind fun r => (r.2[r.2.length - 1]?).map fun e => (e, M.set r.1 (.lst r.2.dropLast))
  | [.int i] => (locL M d).bind fun r => if (decide (-(2 ^ 62) ≤ i) && decide (i < 2 ^ 62)) = true then (seqIndex? i r.2.length).bind fun j => (r.2[j]?).map fun e => (e, M.set r.1 (.lst (r.2.eraseIdx j))) else none
  | _ => none
theorem rm_pop : RMc G (fun x vs H Q => L2.rPop x vs H Q ∨ L2.rPopAt x vs H Q) gPop := by
  intro p M x xs d ds z M' ok rx rs h Q k
  match ds, h with
  | [], h =>
    obtain ⟨⟨n, ys⟩, h1, h⟩ := bind_some h
    obtain ⟨e, h2, h⟩ := map_some h
    cases h
    cases rs
    obtain ⟨a, us, rfl, h3, h4, h5⟩ := locL_ok ok rx h1
    obtain ⟨y, h6, h7⟩ := h5.get h2
    obtain ⟨l, ok'⟩ := put_lst ok h3 h5.dropLast
    exact .inl ⟨a, us, y, rfl, rfl, h4, by rw [h5.length]; exact h6, k (p.put a (.lst us.dropLast)) y l rfl ok' h7⟩
  | [.int i], h =>
    obtain ⟨⟨n, ys⟩, h1, h⟩ := bind_some h
    split at h
    · rename_i hi
      obtain ⟨j, h8, h⟩ := bind_some h
      obtain ⟨e, h2, h⟩ := map_some h
      cases h
      obtain ⟨yi, rfl, ri⟩ := one_rep rs
      cases ri
      rw [Bool.and_eq_true, decide_eq_true_eq, decide_eq_true_eq] at hi
      obtain ⟨a, us, rfl, h3, h4, h5⟩ := locL_ok ok rx h1
      obtain ⟨y, h6, h7⟩ := h5.get h2
      obtain ⟨l, ok'⟩ := put_lst ok h3 (h5.eraseIdx j)
      exact .inr ⟨a, us, i, j, y, rfl, rfl, h4, by omega, by omega, by rw [h5.length]; exact h8, h6, k (p.put a (.lst (us.eraseIdx j))) y l rfl ok' h7⟩
    · cases h
def gClear (M : List MO) (d : D) : List D → Option (D × List MO)
  | [] => (locL M d).map fun r => (.non, M.set r.1 (.lst []))
  | _ => none
theorem rm_clear : RMc G rClear gClear := by
  intro p M x xs d ds z M' ok rx rs h Q k
  match ds, h with
  | [], h =>
    obtain ⟨⟨n, ys⟩, h1, h⟩ := map_some h
    cases h
    cases rs
    obtain ⟨a, us, rfl, h3, h4, h5⟩ := locL_ok ok rx h1
    obtain ⟨l, ok'⟩ := put_lst (xs := []) (ds := []) ok h3 .nil
    exact ⟨a, us, rfl, rfl, h4, k (p.put a (.lst [])) .non l rfl ok' .non⟩
def gIns (M : List MO) (d : D) : List D → Option (D × List MO)
  | [.int i, e] => (locL M d).bind fun r => if (decide (0 ≤ i) && decide (i < 2 ^ 62) && lim r.2.length) = true then some (.non, M.set r.1 (.lst (r.2.take i.toNat ++ [e] ++ r.2.drop i.toNat))) else none
  | _ => none
abbrev rInsA : V → List V → Hp → VK → Prop := fun x vs H Q => ∃ (l : Addr) (xs : List V) (i : Int) (y : V), x = .ref l ∧ vs = [.int i, y] ∧ H l = some (.lst xs) ∧ xs.length < sizeLine ∧ 0 ≤ i ∧ i < 2 ^ 63 ∧
    Q .non (upd H l (.lst (xs.take i.toNat ++ [y] ++ xs.drop i.toNat)))
theorem rm_ins : RMc G rInsA gIns := by
  intro p M x xs d ds z M' ok rx rs h Q k
  match ds, h with
  | [.int i, e], h =>
    obtain ⟨⟨n, ys⟩, h1, h⟩ := bind_some h
    split at h
    · rename_i hi
      cases h
      obtain ⟨yi, y, rfl, ri, ry⟩ := two_rep rs
      cases ri
      rw [Bool.and_eq_true, Bool.and_eq_true, decide_eq_true_eq, decide_eq_true_eq] at hi
      obtain ⟨a, us, rfl, h3, h4, h5⟩ := locL_ok ok rx h1
      obtain ⟨l, ok'⟩ := put_lst ok h3 (((h5.take i.toNat).append (.cons ry .nil)).append (h5.drop i.toNat))
      exact ⟨a, us, i, y, rfl, rfl, h4, by rw [h5.length]; exact lim_lt hi.2, hi.1.1, by omega, k (p.put a _) .non l rfl ok' .non⟩
    · cases h
/-- the first place of k -/
def placeI (k : Int) : List Int → Option Nat
  | [] => none
  | n :: ns => if n = k then some 0 else (placeI k ns).map (· + 1)
theorem placeI_ok {k : Int} : ∀ {ns : List Int} {j : Nat}, placeI k ns = some j → ns[j]? = some k ∧ ∀ m : Nat, m < j → ns[m]? ≠ some k
  | [], _, h => by cases h
  | n :: ns, j, h => by
    rw [placeI] at h
    split at h
    · rename_i hn
      cases h
      exact ⟨by simp [hn], fun m hm => by omega⟩
    · rename_i hn
      obtain ⟨i, h1, h2⟩ := map_some h
      subst h2
      obtain ⟨h3, h4⟩ := placeI_ok h1
      refine ⟨by simpa using h3, fun m hm => ?_⟩
      cases m with
      | zero => simpa using hn
      | succ m => simpa using h4 m (by omega)
def gRem (M : List MO) (d : D) : List D → Option (D × List MO)
  | [.int k] => (locL M d).bind fun r => (intsD r.2).bind fun ns => (placeI k ns).map fun j => (.non, M.set r.1 (.lst ((ns.eraseIdx j).map .int)))
  | _ => none
theorem rm_rem : RMc G rRemI gRem := by
  intro p M x xs d ds z M' ok rx rs h Q k
  match ds, h with
  | [.int i], h =>
    obtain ⟨⟨n, ys⟩, h1, h⟩ := bind_some h
    obtain ⟨ns, h2, h⟩ := bind_some h
    obtain ⟨j, h6, h⟩ := map_some h
    cases h
    obtain ⟨yi, rfl, ri⟩ := one_rep rs
    cases ri
    obtain ⟨a, us, rfl, h3, h4, h5⟩ := locL_ok ok rx h1
    have e2 := intsD_some h2
    simp only at e2
    subst e2
    have e3 := h5.ints_inv
    subst e3
    obtain ⟨h7, h8⟩ := placeI_ok h6
    obtain ⟨l, ok'⟩ := put_lst (xs := (ns.eraseIdx j).map V.int) (ds := (ns.eraseIdx j).map D.int) ok h3 Reps.ints
    exact ⟨a, ns, i, j, rfl, rfl, h4, h7, h8, k (p.put a _) .non l rfl ok' .non⟩

/-! ### methods that read -/
def gCount (M : List MO) (d : D) : List D → Option (D × List MO)
  | [.int k] => (asR M d).bind fun xs => (intsD xs).map fun ns => (.int (ns.count k : Nat), M)
  | _ => none
theorem rm_count : RMc G (rCntI G.K) gCount := by
  intro p M x xs d ds z M' ok rx rs h Q k
  match ds, h with
  | [.int i], h =>
    obtain ⟨ys, h1, h⟩ := bind_some h
    obtain ⟨ns, h2, h⟩ := map_some h
    cases h
    obtain ⟨yi, rfl, ri⟩ := one_rep rs
    cases ri
    obtain ⟨a, us, rfl, h3, h4⟩ := asR_ok ok rx h1
    have e2 := intsD_some h2
    subst e2
    have e3 := h4.ints_inv
    subst e3
    exact ⟨a, ns, i, rfl, rfl, h3, k p _ (.refl p) rfl ok (.int _)⟩
def placeF (k : D) : List D → Option Nat
  | [] => none
  | n :: ns => if eqF n k = true then some 0 else (placeF k ns).map (· + 1)
def gIndex (M : List MO) (d : D) : List D → Option (D × List MO)
  | [e] => (asR M d).bind fun xs => if (flatD e && xs.all flatD) = true then (placeF e xs).map fun j => (.int (j : Nat), M) else none
  | _ => none
theorem placeF_ok {k : D} : ∀ {ns : List D} {j : Nat}, placeF k ns = some j → (∃ z, ns[j]? = some z ∧ eqF z k = true) ∧ ∀ (m : Nat) z', m < j → ns[m]? = some z' → eqF z' k = false
  | [], _, h => by cases h
  | n :: ns, j, h => by
    rw [placeF] at h
    split at h
    · rename_i hn
      cases h
      exact ⟨⟨n, rfl, hn⟩, fun m z' hm => by omega⟩
    · rename_i hn
      obtain ⟨i, h1, h2⟩ := map_some h
      subst h2
      obtain ⟨⟨z, h3, h5⟩, h4⟩ := placeF_ok h1
      refine ⟨⟨z, by simpa using h3, h5⟩, fun m z' hm hz => ?_⟩
      cases m with
      | zero => simp only [List.getElem?_cons_zero, Option.some.injEq] at hz; subst hz; simpa using hn
      | succ m => exact h4 m z' (by omega) (by simpa using hz)
theorem rm_index : RMc G (L2.rIndex G.K) gIndex := by
  intro p M x xs d ds z M' ok rx rs h Q k
  match ds, h with
  | [e], h =>
    obtain ⟨ys, h1, h⟩ := bind_some h
    split at h
    · rename_i hf
      rw [Bool.and_eq_true] at hf
      obtain ⟨j, h2, h⟩ := map_some h
      cases h
      obtain ⟨y, rfl, ry⟩ := one_rep rs
      obtain ⟨a, us, rfl, h3, h4⟩ := asR_ok ok rx h1
      obtain ⟨⟨z, h5, h6⟩, h7⟩ := placeF_ok h2
      obtain ⟨v, h8, h9⟩ := h4.get h5
      have fl : ∀ w ∈ ys, flatD w = true := List.all_eq_true.mp hf.2
      refine ⟨a, us, y, j, v, rfl, rfl, h3, flat_rep ry hf.1, flat_reps h4 hf.2, h8, ?_, fun m z' hm hz => ?_, k p _ (.refl p) rfl ok (.int _)⟩
      · rw [eqF_rep h9 ry (fl _ (List.mem_of_getElem? h5)) hf.1]; exact h6
      · obtain ⟨dz, e1, e2⟩ := h4.get' hz
        rw [eqF_rep e2 ry (fl _ (List.mem_of_getElem? e1)) hf.1]
        exact h7 m dz hm e1
    · cases h
end
section
variable {X : Cx} {e e1 e2 o : Expr} {es : List Expr} {apos pos : Pos} {fo : FE} {fs : FA}
theorem mt_popA : MtR X "list.pop" (fun x vs H Q => L2.rPop x vs H Q ∨ L2.rPopAt x vs H Q) := MtR.or mt_pop mt_popAt
end
end BX

set_option Elab.async false
set_option linter.all false
set_option maxRecDepth 100000
set_option maxHeartbeats 2000000
/-! BX12: isinstance, o[i] = e, short rules by name. -/
namespace BX
open PySem L2

/-! ### isinstance -/
inductive Ty where
  | non | bl | int | str | lst | tup | dct
  deriving DecidableEq
def Ty.name : Ty → String
  | .non => "NoneType" | .bl => "bool" | .int => "int" | .str => "str" | .lst => "list" | .tup => "tuple" | .dct => "dict"
def tyD (M : List MO) : D → Option Ty
  | .non => some .non
  | .bl _ => some .bl
  | .int _ => some .int
  | .str _ => some .str
  | .lst _ => some .lst
  | .tup _ => some .tup
  | .emp => some .dct
  | .exn _ => none
  | .loc k => match M[k]? with
    | some (.lst _) => some .lst
    | _ => none
  | .frz _ => none
  | .obj _ _ => none
def subTy : Ty → Ty → Bool
  | .bl, .int => true
  | a, b => decide (a = b)
theorem kit_sub {K : PySem.W.Frag} : ∀ a b : Ty, PySem.W.kitOne K (.type a.name) (.type b.name) = some (subTy a b) := by
  intro a b
  cases a <;> cases b <;> exact kit_ty (by decide +kernel)
theorem tyD_ok {G : Gx} {p : Ps} {M : List MO} {x : V} {d : D} {t : Ty} (ok : Ok G p M) (r : Rep G.K p.S p.m x d) (h : tyD M d = some t) : TyX G.K p.H x (.type t.name) := by
  cases r with
  | non => cases h; exact .base .non
  | bl b => cases h; exact .base (.bl b)
  | int i => cases h; exact .base (.int i)
  | str z => cases h; exact .base (.str z)
  | lst h1 h2 => cases h; exact .base (.lst (ok.sub _ _ h1))
  | tup h1 h2 => cases h; exact .base (.tup (ok.sub _ _ h1))
  | frz h1 h2 => cases h
  | emp h1 => cases h; exact .base (.dK (ok.sub _ _ h1))
  | obj h1 h2 h3 => cases h
  | exn => cases h
  | @loc a k h1 =>
    unfold tyD at h
    simp only at h
    split at h
    · rename_i xs e
      cases h
      obtain ⟨ys, h2, _⟩ := ok.lst h1 e
      exact .base (.lst h2)
    · cases h
def eIsi (t : Ty) (a : FE) (env : En) (M : List MO) : Option (D × List MO) := (a env M).bind fun r => (tyD r.2 r.1).map fun u => (.bl (subTy u t), r.2)
section
variable {X : Cx} {e : Expr} {pos : Pos} {fa : FE}
theorem se_isi {q q2 : Pos} {x : Str} (t : Ty) (ha : SE X e fa) (hm : X.mg "isinstance" = none) (hm2 : X.mg x = none) (hv2 : bootBuiltins x = some (.type t.name)) (hg : Gl X "isinstance" := by rfl) (hg2 : Gl X x := by rfl)
    (hn2 : x ≠ "__name__" := by decide) (hd2 : (x == ("__debug__" : Str)) = false := by decide)
    (he : starEach [e, .Name x q2] X.env = (false, eval e X.env) :: starEach [.Name x q2] X.env := by rfl) (he2 : starEach [.Name x q2] X.env = (false, eval (.Name x q2) X.env) :: starEach [] X.env := by rfl) (hpl : (backTo pos (starEach [.Name x q2] X.env)).any (·.1) = false := by rfl) :
    SE X (.Call (.Name "isinstance" q) [e, .Name x q2] [] pos) (eIsi t fa) := by
  obtain ⟨ta, pa, va⟩ := ha.ex
  refine ⟨_, pe_callB call_isi hg hm (by decide +kernel) (pa_cons pa (pa_cons (pe_bltn (v := .ty t.name) hg2 hm2 hv2 rfl hn2 hd2) pa_nil he2) he) (by decide) (by decide) he hpl, fun p env M σ d M' ok er h Q k => ?_⟩
  obtain ⟨⟨d1, M1⟩, e1, h⟩ := bind_some h
  obtain ⟨u, e2, h⟩ := map_some h
  cases h
  refine va p env M σ d1 _ ok er e1 _ fun q x l m ok1 rx => ?_
  exact ⟨x, .ty t.name, .type u.name, .type t.name, subTy u t, rfl, .ty _, tyD_ok ok1 rx e2, kit_sub u t, k q _ l m ok1 (.bl _)⟩
end

/-! ### o[i] = e, a list -/
def fSetIx (fv fo fi : FE) (env : En) (M : List MO) : Option Out := (fv env M).bind fun r => (fo env r.2).bind fun s => (fi env s.2).bind fun t => match t.1 with
  | .int j => (locL t.2 s.1).bind fun q => (ixN q.2.length j).map fun n => .nx env (t.2.set q.1 (.lst (q.2.set n r.1)))
  | _ => none
section
variable {X : Cx} {W : Nat → Hp → Prop} {e o i : Expr} {pos tpos : Pos} {fv fo fi : FE}
theorem ss_setIx (hv : SE X e fv) (ho : SE X o fo) (hi : SE X i fi)
    (ha : ∀ v, assign (.Subscript o i tpos) X.env v = (do
      let ov ← holding [v] (eval o X.env)
      let iv ← holding [v, ov] (eval i X.env)
      standAt tpos
      holding [v, ov, iv] (setItem ov iv v)
      release [v, ov, iv] []) := by intro _; rfl)
    (hs : swapsWithSole [.Subscript o i tpos] e pos.line X.env = pure false := by rfl) (hw : swappedStores [.Subscript o i tpos] e X.env = pure none := by rfl) (h1 : (assignEach [.Subscript o i tpos] X.env).map (·.2) = [assign (.Subscript o i tpos) X.env] := by rfl) :
    SS X W (.Assign [.Subscript o i tpos] e pos) (fSetIx fv fo fi) := by
  obtain ⟨tv, pv, vv⟩ := hv.ex
  obtain ⟨t, pt, vt⟩ := ho.ex
  obtain ⟨u, pu, vu⟩ := hi.ex
  refine ⟨_, ps_asg pv (pg_sub pt pu set_list ha) hs hw h1, fun p env M σ oc ok er h D k => ?_⟩
  obtain ⟨⟨d1, M1⟩, e1, h⟩ := bind_some h
  obtain ⟨⟨d2, M2⟩, e2, h⟩ := bind_some h
  obtain ⟨⟨d3, M3⟩, e3, h⟩ := bind_some h
  cases d3 with
  | int j =>
    obtain ⟨⟨n, ys⟩, e4, h⟩ := bind_some h
    obtain ⟨jn, e5, h⟩ := map_some h
    subst h
    refine vv p env M σ d1 M1 ok er e1 _ fun q x l1 m1 ok1 rx => ?_
    refine vt q env M1 σ d2 M2 ok1 (er.mono l1) e2 _ fun q2 y l2 m2 ok2 ry => ?_
    refine vu q2 env M2 σ _ M3 ok2 (er.mono (l1.trans l2)) e3 _ fun q3 z l3 m3 ok3 rz => ?_
    cases rz
    obtain ⟨a, us, rfl, h3, h4, h5⟩ := locL_ok ok3 (l3.rep ry) e4
    have l13 := (l1.trans l2).trans l3
    obtain ⟨l, ok'⟩ := put_lst ok3 h3 (Reps.set ((l2.trans l3).rep rx) jn h5)
    exact ⟨a, us, j, jn, rfl, rfl, h4, by rw [h5.length]; exact e5, k (q3.put a _) σ (l13.trans l) ok' (er.mono (l13.trans l))⟩
  | _ => cases h
end

/-! ### built-ins by name: hm says that the name is still the built-in's -/
section
variable {X : Cx} {a b e : Expr} {es : List Expr} {pos q : Pos} {fa fb fo : FE} {fs : FA} {apos : Pos} {o : Expr}
theorem se_add (ha : SE X a fa) (hb : SE X b fb) : SE X (.BinOp a .Add b pos) (eBin gAdd fa fb) := se_bin op_addA rb_add ha hb
theorem se_sub (ha : SE X a fa) (hb : SE X b fb) : SE X (.BinOp a .Sub b pos) (eBin (gI fun i j => i - j) fa fb) := se_bin op_sub rb_I ha hb
theorem se_mul (ha : SE X a fa) (hb : SE X b fb) : SE X (.BinOp a .Mult b pos) (eBin gMul fa fb) := se_bin op_mulAll rb_mul ha hb
def cDiv (i j : Int) : Bool := decide (0 < j) && decide (j < 1073741824)
def cMod (i j : Int) : Bool := decide (0 < j)
def cPow (i j : Int) : Bool := decide (0 ≤ j) && decide (j ≤ 1000) && decide (i.natAbs < 2 ^ 64)
def cShr (i j : Int) : Bool := decide (0 ≤ j)
theorem se_div (ha : SE X a fa) (hb : SE X b fb) : SE X (.BinOp a .FloorDiv b pos) (eBin (gIC cDiv fun i j => i / j) fa fb) := se_bin op_fdiv (rb_IC fun i j h => by simpa [cDiv, CDiv] using h) ha hb
theorem se_mod (ha : SE X a fa) (hb : SE X b fb) : SE X (.BinOp a .Mod b pos) (eBin (gIC cMod fun i j => i % j) fa fb) := se_bin op_mod (rb_IC fun i j h => by simpa [cMod] using h) ha hb
theorem se_pow (ha : SE X a fa) (hb : SE X b fb) : SE X (.BinOp a .Pow b pos) (eBin (gIC cPow fun i j => i ^ j.toNat) fa fb) := se_bin op_pow (rb_IC fun i j h => by
  simp only [cPow, Bool.and_eq_true, decide_eq_true_eq] at h
  exact ⟨h.1.1, by omega, h.2⟩) ha hb
theorem se_shl (ha : SE X a fa) (hb : SE X b fb) : SE X (.BinOp a .LShift b pos) (eBin (gIC cPow fun i j => i * 2 ^ j.toNat) fa fb) := se_bin op_shl (rb_IC fun i j h => by
  simp only [cPow, Bool.and_eq_true, decide_eq_true_eq] at h
  exact ⟨h.1.1, by omega, h.2⟩) ha hb
theorem se_shr (ha : SE X a fa) (hb : SE X b fb) : SE X (.BinOp a .RShift b pos) (eBin (gIC cShr fun i j => i / 2 ^ j.toNat) fa fb) := se_bin op_shr (rb_IC fun i j h => by simpa [cShr] using h) ha hb
theorem se_and_ (ha : SE X a fa) (hb : SE X b fb) : SE X (.BinOp a .BitAnd b pos) (eBin (gI fun i j => Builtin.bitAnd i j) fa fb) := se_bin op_and rb_I ha hb
theorem se_neg (ha : SE X a fa) : SE X (.UnaryOp .USub a pos) (eUn gNeg fa) := se_un un_neg ru_neg ha
section
variable (hu : X.A.units + 66 < cLine)
include hu
theorem se_eq (ha : SE X a fa) (hb : SE X b fb) : SE X (.Compare a [.Eq] [b] pos) (eBin gEq fa fb) := se_cmp (op_eqD (by omega)) rb_eq ha hb (nomark _)
theorem se_ne (ha : SE X a fa) (hb : SE X b fb) : SE X (.Compare a [.NotEq] [b] pos) (eBin gNe fa fb) := se_cmp (op_neD (by omega)) rb_ne ha hb (nomark _)
theorem se_lt (ha : SE X a fa) (hb : SE X b fb) : SE X (.Compare a [.Lt] [b] pos) (eBin gLt fa fb) := se_cmp (op_ltA (by omega)) rb_cmp ha hb (nomark _)
theorem se_le (ha : SE X a fa) (hb : SE X b fb) : SE X (.Compare a [.LtE] [b] pos) (eBin gLe fa fb) := se_cmp (op_leA (by omega)) rb_cmp ha hb (nomark _)
theorem se_gt (ha : SE X a fa) (hb : SE X b fb) : SE X (.Compare a [.Gt] [b] pos) (eBin gGt fa fb) := se_cmp (op_gtA (by omega)) rb_cmp ha hb (nomark _)
theorem se_ge (ha : SE X a fa) (hb : SE X b fb) : SE X (.Compare a [.GtE] [b] pos) (eBin gGe fa fb) := se_cmp (op_geA (by omega)) rb_cmp ha hb (nomark _)
theorem se_in (ha : SE X a fa) (hb : SE X b fb) (hm : behindInMarks .In b = false := by rfl) : SE X (.Compare a [.In] [b] pos) (eBin gIn fa fb) := se_cmp (op_inA (by omega)) rb_in ha hb hm
theorem se_nin (ha : SE X a fa) (hb : SE X b fb) (hm : behindInMarks .NotIn b = false := by rfl) : SE X (.Compare a [.NotIn] [b] pos) (eBin gNin fa fb) := se_cmp (op_ninA (by omega)) rb_nin ha hb hm
theorem st_eq (ha : SE X a fa) (hb : SE X b fb) : ST X (.Compare a [.Eq] [b] pos) (tE (eBin gEq fa fb)) := st_cmp (op_eqD (by omega)) rb_eq ha hb (nomark _)
theorem st_ne (ha : SE X a fa) (hb : SE X b fb) : ST X (.Compare a [.NotEq] [b] pos) (tE (eBin gNe fa fb)) := st_cmp (op_neD (by omega)) rb_ne ha hb (nomark _)
theorem st_lt (ha : SE X a fa) (hb : SE X b fb) : ST X (.Compare a [.Lt] [b] pos) (tE (eBin gLt fa fb)) := st_cmp (op_ltA (by omega)) rb_cmp ha hb (nomark _)
theorem st_le (ha : SE X a fa) (hb : SE X b fb) : ST X (.Compare a [.LtE] [b] pos) (tE (eBin gLe fa fb)) := st_cmp (op_leA (by omega)) rb_cmp ha hb (nomark _)
theorem st_gt (ha : SE X a fa) (hb : SE X b fb) : ST X (.Compare a [.Gt] [b] pos) (tE (eBin gGt fa fb)) := st_cmp (op_gtA (by omega)) rb_cmp ha hb (nomark _)
theorem st_ge (ha : SE X a fa) (hb : SE X b fb) : ST X (.Compare a [.GtE] [b] pos) (tE (eBin gGe fa fb)) := st_cmp (op_geA (by omega)) rb_cmp ha hb (nomark _)
theorem st_in (ha : SE X a fa) (hb : SE X b fb) (hm : behindInMarks .In b = false := by rfl) : ST X (.Compare a [.In] [b] pos) (tE (eBin gIn fa fb)) := st_cmp (op_inA (by omega)) rb_in ha hb hm
theorem st_nin (ha : SE X a fa) (hb : SE X b fb) (hm : behindInMarks .NotIn b = false := by rfl) : ST X (.Compare a [.NotIn] [b] pos) (tE (eBin gNin fa fb)) := st_cmp (op_ninA (by omega)) rb_nin ha hb hm
theorem se_lele {c : Expr} {fc : FE} (ha : SE X a fa) (hb : SE X b fb) (hc : SE X c fc) (hm : lastMarks [.LtE, .LtE] [b, c] = false := by with_unfolding_all rfl) : SE X (.Compare a [.LtE, .LtE] [b, c] pos) (eChain gLe gLe fa fb fc) := se_chain (op_leA (by omega)) rb_cmp (op_leA (by omega)) rb_cmp ha hb hc hm
theorem se_lelt {c : Expr} {fc : FE} (ha : SE X a fa) (hb : SE X b fb) (hc : SE X c fc) (hm : lastMarks [.LtE, .Lt] [b, c] = false := by with_unfolding_all rfl) : SE X (.Compare a [.LtE, .Lt] [b, c] pos) (eChain gLe gLt fa fb fc) := se_chain (op_leA (by omega)) rb_cmp (op_ltA (by omega)) rb_cmp ha hb hc hm
theorem st_lele {c : Expr} {fc : FE} (ha : SE X a fa) (hb : SE X b fb) (hc : SE X c fc) (hm : lastMarks [.LtE, .LtE] [b, c] = false := by with_unfolding_all rfl) : ST X (.Compare a [.LtE, .LtE] [b, c] pos) (tE (eChain gLe gLe fa fb fc)) := st_chain (op_leA (by omega)) rb_cmp (op_leA (by omega)) rb_cmp ha hb hc hm
theorem st_lelt {c : Expr} {fc : FE} (ha : SE X a fa) (hb : SE X b fb) (hc : SE X c fc) (hm : lastMarks [.LtE, .Lt] [b, c] = false := by with_unfolding_all rfl) : ST X (.Compare a [.LtE, .Lt] [b, c] pos) (tE (eChain gLe gLt fa fb fc)) := st_chain (op_leA (by omega)) rb_cmp (op_ltA (by omega)) rb_cmp ha hb hc hm
theorem se_sorted (hm : X.mg "sorted" = none) (ha : SE X e fa) (hg : Gl X "sorted" := by rfl) (he : starEach [e] X.env = (false, eval e X.env) :: starEach [] X.env := by rfl) : SE X (.Call (.Name "sorted" q) [e] [] pos) (eCall gSorted (aCons fa aNil)) :=
  se_callB (cr_sortedD (by omega)) rc_sorted hg hm (by decide +kernel) (sa_cons ha sa_nil he) (by decide) (by decide) he (by rfl)
theorem sn_sorted (hm : X.mg "sorted" = none) (ha : SE X e fa) (hg : Gl X "sorted" := by rfl) (he : starEach [e] X.env = (false, eval e X.env) :: starEach [] X.env := by rfl) : SN X (.Call (.Name "sorted" q) [e] [] pos) (nCall gSortedN (aCons fa aNil)) :=
  sn_callB (cr_sortedD (by omega)) rcn_sorted hg hm (by decide +kernel) (sa_cons ha sa_nil he) (by decide) (by decide) he (by rfl)
end
theorem se_is (ha : SE X a fa) (hb : SE X b fb) : SE X (.Compare a [.Is] [b] pos) (eBin gIsN fa fb) := se_cmp op_isA rb_is ha hb (nomark _)
theorem se_nis (ha : SE X a fa) (hb : SE X b fb) : SE X (.Compare a [.IsNot] [b] pos) (eBin gNisN fa fb) := se_cmp op_nisA rb_nis ha hb (nomark _)
theorem st_is (ha : SE X a fa) (hb : SE X b fb) : ST X (.Compare a [.Is] [b] pos) (tE (eBin gIsN fa fb)) := st_cmp op_isA rb_is ha hb (nomark _)
theorem st_nis (ha : SE X a fa) (hb : SE X b fb) : ST X (.Compare a [.IsNot] [b] pos) (tE (eBin gNisN fa fb)) := st_cmp op_nisA rb_nis ha hb (nomark _)
section
variable (he : starEach [e] X.env = (false, eval e X.env) :: starEach [] X.env := by rfl)
theorem se_len (hm : X.mg "len" = none) (ha : SE X e fa) (hg : Gl X "len" := by rfl) (he : starEach [e] X.env = (false, eval e X.env) :: starEach [] X.env := by rfl) : SE X (.Call (.Name "len" q) [e] [] pos) (eCall gLen (aCons fa aNil)) :=
  se_callB call_len_seq rc_len hg hm (by decide +kernel) (sa_cons ha sa_nil he) (by decide) (by decide) he (by rfl)
theorem se_all (hc : X.calm = true) (hm : X.mg "all" = none) (ha : SE X e fa) (hg : Gl X "all" := by rfl) (he : starEach [e] X.env = (false, eval e X.env) :: starEach [] X.env := by rfl) : SE X (.Call (.Name "all" q) [e] [] pos) (eCall gAll (aCons fa aNil)) :=
  se_callB (cr_all hc) rc_all hg hm (by decide +kernel) (sa_cons ha sa_nil he) (by decide) (by decide) he (by rfl)
theorem se_any (hc : X.calm = true) (hm : X.mg "any" = none) (ha : SE X e fa) (hg : Gl X "any" := by rfl) (he : starEach [e] X.env = (false, eval e X.env) :: starEach [] X.env := by rfl) : SE X (.Call (.Name "any" q) [e] [] pos) (eCall gAny (aCons fa aNil)) :=
  se_callB (cr_any hc) rc_any hg hm (by decide +kernel) (sa_cons ha sa_nil he) (by decide) (by decide) he (by rfl)
theorem se_sum (hc : X.calm = true) (hm : X.mg "sum" = none) (ha : SE X e fa) (hg : Gl X "sum" := by rfl) (he : starEach [e] X.env = (false, eval e X.env) :: starEach [] X.env := by rfl) : SE X (.Call (.Name "sum" q) [e] [] pos) (eCall gSum (aCons fa aNil)) :=
  se_callB (cr_sum hc) rc_sum hg hm (by decide +kernel) (sa_cons ha sa_nil he) (by decide) (by decide) he (by rfl)
theorem se_abs (hm : X.mg "abs" = none) (ha : SE X e fa) (hg : Gl X "abs" := by rfl) (he : starEach [e] X.env = (false, eval e X.env) :: starEach [] X.env := by rfl) : SE X (.Call (.Name "abs" q) [e] [] pos) (eCall gAbs (aCons fa aNil)) :=
  se_callB call_abs rc_abs hg hm (by decide +kernel) (sa_cons ha sa_nil he) (by decide) (by decide) he (by rfl)
theorem se_list (hm : X.mg "list" = none) (ha : SE X e fa) (hg : Gl X "list" := by rfl) (he : starEach [e] X.env = (false, eval e X.env) :: starEach [] X.env := by rfl) : SE X (.Call (.Name "list" q) [e] [] pos) (eCall gList (aCons fa aNil)) :=
  se_callTy call_list_of rc_list hg hm (by decide +kernel) (sa_cons ha sa_nil he) (by decide) (by decide) he (by rfl)
theorem sn_list (hm : X.mg "list" = none) (ha : SE X e fa) (hg : Gl X "list" := by rfl) (he : starEach [e] X.env = (false, eval e X.env) :: starEach [] X.env := by rfl) : SN X (.Call (.Name "list" q) [e] [] pos) (nCall gListN (aCons fa aNil)) :=
  sn_callTy call_list_of rcn_list hg hm (by decide +kernel) (sa_cons ha sa_nil he) (by decide) (by decide) he (by rfl)
theorem se_tuple (hm : X.mg "tuple" = none) (ha : SE X e fa) (hg : Gl X "tuple" := by rfl) (he : starEach [e] X.env = (false, eval e X.env) :: starEach [] X.env := by rfl) : SE X (.Call (.Name "tuple" q) [e] [] pos) (eCall gTuple (aCons fa aNil)) :=
  se_callTy call_tuple_of rc_tuple hg hm (by decide +kernel) (sa_cons ha sa_nil he) (by decide) (by decide) he (by rfl)
theorem se_max (hc : X.calm = true) (hm : X.mg "max" = none) (ha : SA X (e :: es) fs) (hg : Gl X "max" := by rfl) (he : starEach (e :: es) X.env = (false, eval e X.env) :: starEach es X.env := by rfl) (hpl : (backTo pos (starEach es X.env)).any (·.1) = false := by rfl) : SE X (.Call (.Name "max" q) (e :: es) [] pos) (eCall gMax fs) :=
  se_callB (cr_maxA hc) rc_max hg hm (by decide +kernel) ha (by decide) (by decide) he hpl
theorem se_min (hc : X.calm = true) (hm : X.mg "min" = none) (ha : SA X (e :: es) fs) (hg : Gl X "min" := by rfl) (he : starEach (e :: es) X.env = (false, eval e X.env) :: starEach es X.env := by rfl) (hpl : (backTo pos (starEach es X.env)).any (·.1) = false := by rfl) : SE X (.Call (.Name "min" q) (e :: es) [] pos) (eCall gMin fs) :=
  se_callB (cr_minA hc) rc_min hg hm (by decide +kernel) ha (by decide) (by decide) he hpl
end
section
variable (ho : SE X o fo) (ha : SE X e fa) (hbase : attributeBase o "append" X.env (eval o X.env) = eval o X.env := by rfl)
end
/-- the side conditions of a method's call with one argument -/
theorem few1 {X : Cx} {e : Expr} {pos : Pos} (hs : starEach [e] X.env = (false, eval e X.env) :: starEach [] X.env) : ((backTo pos (starEach [e] X.env)).all (fun x => !x.1) && (backToKw pos (keywordEach [] X.env)).all (fun x => x.1.isSome)
      && decide ([e].length + ([] : List Keyword).length + (if ([] : List Keyword).isEmpty then 0 else 1) < 30)) = true := by rw [hs]; rfl
section
variable (ho : SE X o fo) (ha : SE X e fa)
include ho ha
theorem se_append (hb : attributeBase o "append" X.env (eval o X.env) = eval o X.env := by rfl) (hl : (apos.endLine == pos.line) = true := by rfl) (hs : starEach [e] X.env = (false, eval e X.env) :: starEach [] X.env := by rfl) : SE X (.Call (.Attribute o "append" apos) [e] [] pos) (eMc gApp fo (aCons fa aNil)) :=
  se_bm PySem.F.slot_list_append PySem.F.type_list_append mt_append rm_app ho (sa_cons ha sa_nil hs) hb (few1 hs) hl hs (by rfl)
theorem se_extend (hb : attributeBase o "extend" X.env (eval o X.env) = eval o X.env := by rfl) (hl : (apos.endLine == pos.line) = true := by rfl) (hs : starEach [e] X.env = (false, eval e X.env) :: starEach [] X.env := by rfl) : SE X (.Call (.Attribute o "extend" apos) [e] [] pos) (eMc gExt fo (aCons fa aNil)) :=
  se_bm PySem.F.slot_list_extend PySem.F.type_list_extend mt_extend rm_ext ho (sa_cons ha sa_nil hs) hb (few1 hs) hl hs (by rfl)
theorem se_popAt (hb : attributeBase o "pop" X.env (eval o X.env) = eval o X.env := by rfl) (hl : (apos.endLine == pos.line) = true := by rfl) (hs : starEach [e] X.env = (false, eval e X.env) :: starEach [] X.env := by rfl) : SE X (.Call (.Attribute o "pop" apos) [e] [] pos) (eMc gPop fo (aCons fa aNil)) :=
  se_bm PySem.F.slot_list_pop PySem.F.type_list_pop mt_popA rm_pop ho (sa_cons ha sa_nil hs) hb (few1 hs) hl hs (by rfl)
theorem se_remove (hb : attributeBase o "remove" X.env (eval o X.env) = eval o X.env := by rfl) (hl : (apos.endLine == pos.line) = true := by rfl) (hs : starEach [e] X.env = (false, eval e X.env) :: starEach [] X.env := by rfl) : SE X (.Call (.Attribute o "remove" apos) [e] [] pos) (eMc gRem fo (aCons fa aNil)) :=
  se_bm PySem.F.slot_list_remove PySem.F.type_list_remove mt_remove rm_rem ho (sa_cons ha sa_nil hs) hb (few1 hs) hl hs (by rfl)
theorem se_count (hb : attributeBase o "count" X.env (eval o X.env) = eval o X.env := by rfl) (hl : (apos.endLine == pos.line) = true := by rfl) (hs : starEach [e] X.env = (false, eval e X.env) :: starEach [] X.env := by rfl) : SE X (.Call (.Attribute o "count" apos) [e] [] pos) (eMc gCount fo (aCons fa aNil)) :=
  se_bm PySem.F.slot_list_count PySem.F.type_list_count mt_lcount rm_count ho (sa_cons ha sa_nil hs) hb (few1 hs) hl hs (by rfl)
theorem se_index (hb : attributeBase o "index" X.env (eval o X.env) = eval o X.env := by rfl) (hl : (apos.endLine == pos.line) = true := by rfl) (hs : starEach [e] X.env = (false, eval e X.env) :: starEach [] X.env := by rfl) : SE X (.Call (.Attribute o "index" apos) [e] [] pos) (eMc gIndex fo (aCons fa aNil)) :=
  se_bm PySem.F.slot_list_index PySem.F.type_list_index mt_index rm_index ho (sa_cons ha sa_nil hs) hb (few1 hs) hl hs (by rfl)
end
theorem se_pop (ho : SE X o fo) (hb : attributeBase o "pop" X.env (eval o X.env) = eval o X.env := by rfl) (hl : (apos.endLine == pos.line) = true := by rfl) : SE X (.Call (.Attribute o "pop" apos) [] [] pos) (eMc gPop fo aNil) :=
  se_bm0 PySem.F.slot_list_pop PySem.F.type_list_pop mt_popA rm_pop ho hb hl
theorem se_clear (ho : SE X o fo) (hb : attributeBase o "clear" X.env (eval o X.env) = eval o X.env := by rfl) (hl : (apos.endLine == pos.line) = true := by rfl) : SE X (.Call (.Attribute o "clear" apos) [] [] pos) (eMc gClear fo aNil) :=
  se_bm0 PySem.F.slot_list_clear PySem.F.type_list_clear mt_clear rm_clear ho hb hl
end
end BX

set_option Elab.async false
set_option linter.all false
set_option maxRecDepth 100000
set_option maxHeartbeats 2000000
/-! BX13: several values at once, some of them new lists; results that are taken as mutable objects. -/
namespace BX
open PySem L2

/-- a value: data, or a new list -/
inductive Mx where
  | d (x : D) | n (xs : List D) | ed
abbrev FM := En → List MO → Option (List Mx × List MO)
def mNil (_ : En) (M : List MO) : Option (List Mx × List MO) := some ([], M)
def mE (a : FE) (r : FM) (env : En) (M : List MO) : Option (List Mx × List MO) := (a env M).bind fun s => (r env s.2).map fun t => (.d s.1 :: t.1, t.2)
def mN (a : FA) (r : FM) (env : En) (M : List MO) : Option (List Mx × List MO) := (a env M).bind fun s => (r env s.2).map fun t => (.n s.1 :: t.1, t.2)
/-- the values xs in q for the answers; the new lists stand at fresh places -/
inductive RepM (G : Gx) (q : Ps) : Hp → List V → List Mx → Prop
  | nil {H0 : Hp} : RepM G q H0 [] []
  | d {H0 : Hp} {x : V} {xs : List V} {d : D} {ms : List Mx} : Rep G.K q.S q.m x d → RepM G q H0 xs ms → RepM G q H0 (x :: xs) (.d d :: ms)
  | n {H0 : Hp} {a : Addr} {ys xs : List V} {ds : List D} {ms : List Mx} : H0 a = none → a ∉ q.m → q.S a = none → q.H a = some (.lst ys) → Reps G.K q.S q.m ys ds → RepM G q (upd H0 a (.lst ys)) xs ms → RepM G q H0 (.ref a :: xs) (.n ds :: ms)
  | ed {H0 : Hp} {a : Addr} {xs : List V} {ms : List Mx} : H0 a = none → a ∉ q.m → q.S a = none → q.H a = some (.dK []) → RepM G q (upd H0 a (.dK [])) xs ms → RepM G q H0 (.ref a :: xs) (.ed :: ms)
def mD (r : FM) (env : En) (M : List MO) : Option (List Mx × List MO) := (r env M).map fun t => (.ed :: t.1, t.2)
def alcM : List Mx → List MO → List D × List MO
  | [], M => ([], M)
  | .d x :: ms, M => let r := alcM ms M; (x :: r.1, r.2)
  | .n xs :: ms, M => let r := alcM ms (M ++ [.lst xs]); (.loc M.length :: r.1, r.2)
  | .ed :: ms, M => let r := alcM ms (M ++ [.dct []]); (.loc M.length :: r.1, r.2)
def EvM (G : Gx) (ta : TA) (f : FM) : Prop := ∀ (p : Ps) (env : En) (M : List MO) (σ : L2.St) (ms : List Mx) (M' : List MO), Ok G p M → EnvR G p env σ → f env M = some (ms, M') →
  ∀ Q : List V → Hp → Prop, (∀ (q : Ps) (xs : List V), Le p q → q.z = p.z → Ok G q M' → RepM G q p.H xs ms → Q xs q.H) → ta σ p.H Q
structure SM (X : Cx) (es : List Expr) (f : FM) : Prop where
  ex : ∃ ta, PA X es ta ∧ EvM (gx X) ta f
theorem RepM.mono0 {G : Gx} {q : Ps} : ∀ {xs : List V} {ms : List Mx} {H0 H1 : Hp}, RepM G q H0 xs ms → (∀ a, H0 a = none → H1 a = none) → RepM G q H1 xs ms
  | _, _, _, _, .nil, _ => .nil
  | _, _, _, _, .d h r, e => .d h (r.mono0 e)
  | _, _, H0, H1, .n (a := a) (ys := ys) h1 hq h2 h3 h4 r, e => .n (e _ h1) hq h2 h3 h4 (r.mono0 fun b hb => by
    by_cases h : b = a
    · subst h; rw [upd_same] at hb; cases hb
    · rw [upd_ne h] at hb ⊢; exact e b hb)
  | _, _, H0, H1, .ed (a := a) h1 hq h2 h3 r, e => .ed (e _ h1) hq h2 h3 (r.mono0 fun b hb => by
    by_cases h : b = a
    · subst h; rw [upd_same] at hb; cases hb
    · rw [upd_ne h] at hb ⊢; exact e b hb)
theorem RepM.length {G : Gx} {q : Ps} : ∀ {H0 : Hp} {xs : List V} {ms : List Mx}, RepM G q H0 xs ms → ms.length = xs.length
  | _, _, _, .nil => rfl
  | _, _, _, .d _ r => by rw [List.length_cons, List.length_cons, r.length]
  | _, _, _, .n _ _ _ _ _ r => by rw [List.length_cons, List.length_cons, r.length]
  | _, _, _, .ed _ _ _ _ r => by rw [List.length_cons, List.length_cons, r.length]
section
variable {X : Cx} {e : Expr} {es : List Expr} {fe : FE} {fn : FA} {fm : FM} {pos : Pos}
theorem sm_nil : SM X [] mNil := ⟨_, pa_nil, fun p env M σ ms M' ok er h Q k => by cases h; exact k p [] (.refl p) rfl ok .nil⟩
theorem sm_E (h : SE X e fe) (r : SM X es fm) (hs : starEach (e :: es) X.env = (false, eval e X.env) :: starEach es X.env := by rfl) : SM X (e :: es) (mE fe fm) := by
  obtain ⟨t, pt, vt⟩ := h.ex
  obtain ⟨u, pu, vu⟩ := r.ex
  refine ⟨_, pa_cons pt pu hs, fun p env M σ ms M' ok er h Q k => ?_⟩
  obtain ⟨⟨d1, M1⟩, e1, h⟩ := bind_some h
  obtain ⟨⟨ms2, M2⟩, e2, h⟩ := map_some h
  cases h
  refine vt p env M σ d1 M1 ok er e1 _ fun q x l m ok1 rx => ?_
  refine vu q env M1 σ ms2 _ ok1 (er.mono l) e2 _ fun q2 xs l2 m2 ok2 rxs => ?_
  exact k q2 (x :: xs) (l.trans l2) (m2.trans m) ok2 (.d (l2.rep rx) (rxs.mono0 fun a ha => l.fresh ha))
theorem sm_N (h : SN X e fn) (r : SM X es fm) (hs : starEach (e :: es) X.env = (false, eval e X.env) :: starEach es X.env := by rfl) : SM X (e :: es) (mN fn fm) := by
  obtain ⟨t, pt, vt⟩ := h.ex
  obtain ⟨u, pu, vu⟩ := r.ex
  refine ⟨_, pa_cons pt pu hs, fun p env M σ ms M' ok er h Q k => ?_⟩
  obtain ⟨⟨d1, M1⟩, e1, h⟩ := bind_some h
  obtain ⟨⟨ms2, M2⟩, e2, h⟩ := map_some h
  cases h
  refine vt p env M σ d1 M1 ok er e1 _ fun q a ys l hm hn hs ok1 hH ry => ?_
  refine vu q env M1 σ ms2 _ ok1 (er.mono l) e2 _ fun q2 xs l2 m2 ok2 rxs => ?_
  refine k q2 (.ref a :: xs) (l.trans l2) rfl ok2 (.n hn (l2.nin hH hm) (l2.nw a _ hs hH) (l2.fr a _ hH hm) (l2.reps ry) (rxs.mono0 fun b hb => ?_))
  by_cases h : b = a
  · subst h; rw [hH] at hb; cases hb
  · rw [upd_ne h]; exact l.fresh hb
theorem sm_D (r : SM X es fm) (hs : starEach (.Dict [] [] pos :: es) X.env = (false, eval (.Dict [] [] pos) X.env) :: starEach es X.env := by rfl) : SM X (.Dict [] [] pos :: es) (mD fm) := by
  obtain ⟨u, pu, vu⟩ := r.ex
  refine ⟨_, pa_cons pe_dnewK pu hs, fun p env M σ ms M' ok er h Q k => ?_⟩
  obtain ⟨⟨ms2, M2⟩, e2, h⟩ := map_some h
  cases h
  intro a hn
  have hm : a ∉ p.m := ok.not_m hn
  have hs := ok.S_none hn
  have l : Le p (p.put a (.dK [])) := Le.pend hn
  have ok1 : Ok (gx X) (p.put a (.dK [])) M := ok.pend hs hm
  refine vu (p.put a (.dK [])) env M σ ms2 _ ok1 (er.mono l) e2 _ fun q2 xs l2 m2 ok2 rxs => ?_
  have hH : (p.put a (.dK [])).H a = some (.dK []) := upd_same
  refine k q2 (.ref a :: xs) (l.trans l2) m2 ok2 (.ed hn (l2.nin hH hm) (l2.nw a _ hs hH) (l2.fr a _ hH hm) (rxs.mono0 fun b hb => ?_))
  exact hb
end
/-- one more mutable object, at a fresh place -/
theorem add_obj {G : Gx} {q : Ps} {M : List MO} {a : Addr} {o : MO} (ok : Ok G q M) (hm : a ∉ q.m) (hs : q.S a = none) (hr : MOR G ⟨q.m ++ [a], q.S, q.H⟩ a o) : Ok G ⟨q.m ++ [a], q.S, q.H⟩ (M ++ [o]) := by
  have em : ∀ (k : Nat) (b : Addr), q.m[k]? = some b → (q.m ++ [a])[k]? = some b := fun k b h => by
    rw [List.getElem?_append_left (List.getElem?_eq_some_iff.mp h).1]; exact h
  refine ⟨ok.sub, ?_, fun b hb => ?_, ?_, fun k b u e1 e2 => ?_⟩
  · show (q.m ++ [a]).Nodup
    rw [List.nodup_append]
    refine ⟨ok.nd, by simp, fun x hx y hy => ?_⟩
    rw [List.mem_singleton] at hy
    subst hy
    exact fun e => hm (by rw [← e]; exact hx)
  · have hb' : b ∈ q.m ++ [a] := hb
    rw [List.mem_append, List.mem_singleton] at hb'
    rcases hb' with hb' | rfl
    · exact ok.apart b hb'
    · exact hs
  · show (q.m ++ [a]).length = (M ++ [o]).length
    rw [List.length_append, List.length_append, ok.len]
    rfl
  · have e1' : (q.m ++ [a])[k]? = some b := e1
    by_cases hk : k < q.m.length
    · rw [List.getElem?_append_left hk] at e1'
      rw [List.getElem?_append_left (by rw [← ok.len]; exact hk)] at e2
      have := ok.at_ k b u e1' e2
      cases u with
      | lst es =>
        obtain ⟨ys, h1, h2⟩ := this
        exact ⟨ys, h1, h2.mono (fun _ _ z => z) em⟩
      | dct kvs => exact this
      | tbl x => exact this
      | ins x fs =>
        obtain ⟨C, dx, vs, h1, h2, h3⟩ := this
        exact ⟨C, dx, vs, h1, h2, Paired.mapP h3 fun u v z => ⟨z.1, z.2.mono (fun _ _ z => z) em⟩⟩
    · rw [List.getElem?_append_right (Nat.le_of_not_lt hk)] at e1'
      rw [List.getElem?_append_right (by rw [← ok.len]; exact Nat.le_of_not_lt hk)] at e2
      rw [ok.len] at e1'
      generalize k - M.length = j at e1' e2
      cases j with
      | zero =>
        simp only [List.getElem?_cons_zero, Option.some.injEq] at e1' e2
        subst e1' e2
        exact hr
      | succ j => simp at e2
theorem add_loc {G : Gx} {q : Ps} {M : List MO} {a : Addr} {xs : List V} {ds : List D} (ok : Ok G q M) (hm : a ∉ q.m) (hs : q.S a = none) (hH : q.H a = some (.lst xs)) (r : Reps G.K q.S q.m xs ds) : Ok G ⟨q.m ++ [a], q.S, q.H⟩ (M ++ [.lst ds]) :=
  add_obj ok hm hs ⟨xs, hH, r.mono (fun _ _ z => z) fun k b h => by rw [List.getElem?_append_left (List.getElem?_eq_some_iff.mp h).1]; exact h⟩
theorem RepM.more {G : Gx} {S H : Hp} {m : List Addr} {a : Addr} : ∀ {xs : List V} {ms : List Mx} {H0 : Hp}, RepM G ⟨m, S, H⟩ H0 xs ms → H0 a ≠ none → RepM G ⟨m ++ [a], S, H⟩ H0 xs ms := by
  intro xs ms H0 r
  have em : ∀ (k : Nat) (b : Addr), m[k]? = some b → (m ++ [a])[k]? = some b := fun k b e => by rw [List.getElem?_append_left (List.getElem?_eq_some_iff.mp e).1]; exact e
  have hne : ∀ {b : Addr} {H0 : Hp} {o : HO}, H0 a ≠ none → H0 b = none → (upd H0 b o) a ≠ none := fun {b H0 o} h1 h2 => by
    by_cases e : a = b
    · rw [e, upd_same]; exact fun z => nomatch z
    · rw [upd_ne e]; exact h1
  have hnm : ∀ {b : Addr} {H0 : Hp}, H0 a ≠ none → H0 b = none → b ∉ m → b ∉ m ++ [a] := fun {b H0} h1 h2 h3 z => by
    rw [List.mem_append, List.mem_singleton] at z
    rcases z with z | z
    · exact h3 z
    · rw [z] at h2; exact h1 h2
  induction r with
  | nil => exact fun _ => .nil
  | d h _ ih => exact fun ha => .d (h.mono (fun _ _ z => z) em) (ih ha)
  | n a1 aq a2 a3 a4 _ ih => exact fun ha => .n a1 (hnm ha a1 aq) a2 a3 (a4.mono (fun _ _ z => z) em) (ih (hne ha a1))
  | ed a1 aq a2 a3 _ ih => exact fun ha => .ed a1 (hnm ha a1 aq) a2 a3 (ih (hne ha a1))
/-- all the new lists become mutable objects -/
theorem alcM_ok {G : Gx} {S H : Hp} : ∀ {xs : List V} {ms : List Mx} {H0 : Hp} {m : List Addr} {M : List MO}, RepM G ⟨m, S, H⟩ H0 xs ms → Ok G ⟨m, S, H⟩ M →
    ∃ as : List Addr, Ok G ⟨m ++ as, S, H⟩ (alcM ms M).2 ∧ Reps G.K S (m ++ as) xs (alcM ms M).1 ∧ ∀ a, a ∈ as → H0 a = none
  | _, _, _, m, M, .nil, ok => ⟨[], by rw [List.append_nil]; exact ok, .nil, fun a h => by cases h⟩
  | _, _, _, m, M, .d h r, ok => by
    obtain ⟨as, h1, h2, h3⟩ := alcM_ok r ok
    exact ⟨as, h1, .cons (h.mono (fun _ _ z => z) fun k b e => by rw [List.getElem?_append_left (List.getElem?_eq_some_iff.mp e).1]; exact e) h2, h3⟩
  | _, _, H0, m, M, .n (a := a) (ys := ys) (ds := ds) (ms := ms) h1 ham h2 h3 h4 r, ok => by
    have ok1 : Ok G ⟨m ++ [a], S, H⟩ (M ++ [.lst ds]) := add_loc (q := ⟨m, S, H⟩) ok ham h2 h3 h4
    obtain ⟨as, h5, h6, h7⟩ := alcM_ok (r.more (a := a) (by rw [upd_same]; exact fun z => nomatch z)) ok1
    refine ⟨a :: as, ?_, .cons (.loc ?_) ?_, fun b hb => ?_⟩
    · rw [show m ++ a :: as = m ++ [a] ++ as by simp]; exact h5
    · rw [← ok.len, List.getElem?_append_right (Nat.le_refl _)]
      simp
    · rw [show m ++ a :: as = m ++ [a] ++ as by simp]; exact h6
    · rcases List.mem_cons.mp hb with rfl | hb
      · exact h1
      · have := h7 b hb
        by_cases e : b = a
        · subst e; exact h1
        · rw [upd_ne e] at this; exact this
  | _, _, H0, m, M, .ed (a := a) (ms := ms) h1 ham h2 h3 r, ok => by
    have ok1 : Ok G ⟨m ++ [a], S, H⟩ (M ++ [.dct []]) := add_obj (q := ⟨m, S, H⟩) ok ham h2 (.inl ⟨[], h3, .nil⟩)
    obtain ⟨as, h5, h6, h7⟩ := alcM_ok (r.more (a := a) (by rw [upd_same]; exact fun z => nomatch z)) ok1
    refine ⟨a :: as, ?_, .cons (.loc ?_) ?_, fun b hb => ?_⟩
    · rw [show m ++ a :: as = m ++ [a] ++ as by simp]; exact h5
    · rw [← ok.len, List.getElem?_append_right (Nat.le_refl _)]
      simp
    · rw [show m ++ a :: as = m ++ [a] ++ as by simp]; exact h6
    · rcases List.mem_cons.mp hb with rfl | hb
      · exact h1
      · have := h7 b hb
        by_cases e : b = a
        · subst e; exact h1
        · rw [upd_ne e] at this; exact this
theorem alcM_le {G : Gx} {p q : Ps} {M : List MO} {as : List Addr} (l : Le p q) (h : ∀ a, a ∈ as → p.H a = none) : Le p ⟨q.m ++ as, q.S, q.H⟩ := by
  obtain ⟨t, ht⟩ := l.m
  refine ⟨⟨t ++ as, by show q.m ++ as = _; rw [ht, List.append_assoc]⟩, l.sh, l.nw, l.fr, l.dm, fun a ha => ?_⟩
  have ha' : a ∈ q.m ++ as := ha
  rw [List.mem_append] at ha'
  rcases ha' with z | z
  · exact l.nm a z
  · exact .inr (h a z)
theorem Ok.m_some {G : Gx} {p : Ps} {M : List MO} (ok : Ok G p M) : ∀ a, a ∈ p.m → p.H a ≠ none := fun a h z => ok.not_m z h
def fParM (is : List Nat) (fm : FM) (env : En) (M : List MO) : Option Out := (fm env M).bind fun r => let s := alcM r.1 r.2; if is.length = s.1.length then some (.nx (setAll is s.1 env) s.2) else none
def fLstM (i : Nat) (fm : FM) (env : En) (M : List MO) : Option Out := (fm env M).bind fun r => let s := alcM r.1 r.2; if lim s.1.length = true then some (.nx (env.set i (some (.lst s.1))) s.2) else none
def fRetTupM (fm : FM) (env : En) (M : List MO) : Option Out := (fm env M).bind fun r => let s := alcM r.1 r.2; if lim s.1.length = true then some (.rt (.tup s.1) s.2) else none
section
variable {X : Cx} {W : Nat → Hp → Prop} {e : Expr} {es : List Expr} {fe : FE} {fn : FA} {fm : FM} {pos : Pos}
theorem evs_parM2 {G : Gx} {i j : Nat} {ta : TA} (h : EvM G ta fm) : EvS G W (tPar i j ta) (fParM [i, j] fm) := by
  intro p env M σ o ok er h1 D k
  obtain ⟨⟨ms, M1⟩, e1, h1⟩ := bind_some h1
  simp only at h1
  split at h1
  · rename_i hl
    cases h1
    refine h p env M σ ms M1 ok er e1 _ fun q xs l m ok1 r => ?_
    obtain ⟨as, h2, h3, h4⟩ := alcM_ok r ok1
    have l2 := alcM_le (G := G) (M := M) l h4
    obtain ⟨d1, d2, hz⟩ : ∃ d1 d2, (alcM ms M1).1 = [d1, d2] := by
      match (alcM ms M1).1, hl with
      | [d1, d2], _ => exact ⟨d1, d2, rfl⟩
    rw [hz] at h3 k
    · cases h3 with
      | @cons x _ _ _ rx h3 => cases h3 with
        | @cons y _ _ _ ry h3 =>
          cases h3
          exact ⟨x, y, rfl, k ⟨q.m ++ as, q.S, q.H⟩ _ l2 h2 (((er.mono l2).set rx).set ry)⟩
  · cases h1
theorem ss_parM {i j : Nat} {x y : Str} {a b : Expr} {px py pt : Pos} {kt k2 : Nat} {pt2 : Pos} (hc : X.calm = true) (hN : X.N.Nodup) (ha : SM X [a, b] fm) (hi : X.N[i]? = some x := by rfl) (hj : X.N[j]? = some y := by rfl) (hij : i ≠ j := by decide)
    (hx : X.env.scope.names.lookup x = some .local := by rfl) (hy : X.env.scope.names.lookup y = some .local := by rfl)
    (hw : swappedStores [.Tuple [.Name x px, .Name y py] kt pt] (.Tuple [a, b] k2 pt2) X.env = pure (some [x, y]) := by rfl)
    (hs : swapsWithSole [.Tuple [.Name x px, .Name y py] kt pt] (.Tuple [a, b] k2 pt2) pos.line X.env = pure false := by rfl) :
    SS X W (.Assign [.Tuple [.Name x px, .Name y py] kt pt] (.Tuple [a, b] k2 pt2) pos) (fParM [i, j] fm) := by
  obtain ⟨t, pt, vt⟩ := ha.ex
  exact ⟨_, ps_par hc hN hi hj hij hx hy pt hw hs, evs_parM2 vt⟩
theorem evs_parM3 {G : Gx} {i j n : Nat} {ta : TA} (h : EvM G ta fm) : EvS G W (tPar3 i j n ta) (fParM [i, j, n] fm) := by
  intro p env M σ o ok er h1 D k
  obtain ⟨⟨ms, M1⟩, e1, h1⟩ := bind_some h1
  simp only at h1
  split at h1
  · rename_i hl
    cases h1
    refine h p env M σ ms M1 ok er e1 _ fun q xs l m ok1 r => ?_
    obtain ⟨as, h2, h3, h4⟩ := alcM_ok r ok1
    have l2 := alcM_le (G := G) (M := M) l h4
    obtain ⟨d1, d2, d3, hz⟩ : ∃ d1 d2 d3, (alcM ms M1).1 = [d1, d2, d3] := by
      match (alcM ms M1).1, hl with
      | [d1, d2, d3], _ => exact ⟨d1, d2, d3, rfl⟩
    rw [hz] at h3 k
    · cases h3 with
      | @cons x _ _ _ rx h3 => cases h3 with
        | @cons y _ _ _ ry h3 => cases h3 with
          | @cons z _ _ _ rz h3 =>
            cases h3
            exact ⟨x, y, z, rfl, k ⟨q.m ++ as, q.S, q.H⟩ _ l2 h2 ((((er.mono l2).set rx).set ry).set rz)⟩
  · cases h1
theorem ss_parM3 {i j n : Nat} {x y z : Str} {a b c : Expr} {px py pz pt : Pos} {kt k2 : Nat} {pt2 : Pos} (hc : X.calm = true) (hN : X.N.Nodup) (ha : SM X [a, b, c] fm) (hi : X.N[i]? = some x := by rfl) (hj : X.N[j]? = some y := by rfl) (hl : X.N[n]? = some z := by rfl) (hij : i ≠ j := by decide) (hil : i ≠ n := by decide) (hjl : j ≠ n := by decide)
    (hx : X.env.scope.names.lookup x = some .local := by rfl) (hy : X.env.scope.names.lookup y = some .local := by rfl) (hz : X.env.scope.names.lookup z = some .local := by rfl)
    (hw : swappedStores [.Tuple [.Name x px, .Name y py, .Name z pz] kt pt] (.Tuple [a, b, c] k2 pt2) X.env = pure (some [x, y, z]) := by rfl)
    (hs : swapsWithSole [.Tuple [.Name x px, .Name y py, .Name z pz] kt pt] (.Tuple [a, b, c] k2 pt2) pos.line X.env = pure false := by rfl) :
    SS X W (.Assign [.Tuple [.Name x px, .Name y py, .Name z pz] kt pt] (.Tuple [a, b, c] k2 pt2) pos) (fParM [i, j, n] fm) := by
  obtain ⟨t, pt, vt⟩ := ha.ex
  exact ⟨_, ps_par3 hc hN hi hj hl hij hil hjl hx hy hz pt hw hs, evs_parM3 vt⟩
/-- the same by a tuple that is made and taken apart (a name that is a cell) -/
theorem ss_asgM {ts : List Expr} {k1 k2 : Nat} {p1 p2 : Pos} {is : List Nat} (hc : X.calm = true) (hg : SGs X ts is) (ha : SM X es fm) (hn : (assignEach ts X.env).length = ts.length := by rfl) (hst : (assignEach ts X.env).findIdx? (·.1) = none := by rfl)
    (hs : swapsWithSole [.Tuple ts k1 p1] (.Tuple es k2 p2) pos.line X.env = pure false := by rfl) (hw : swappedStores [.Tuple ts k1 p1] (.Tuple es k2 p2) X.env = pure none := by rfl) (h1 : (assignEach [.Tuple ts k1 p1] X.env).map (·.2) = [assign (.Tuple ts k1 p1) X.env] := by rfl) (hlen : es.length ≤ 100 := by decide)
    (hes : ∀ env M ms M', fm env M = some (ms, M') → ms.length ≤ 100) :
    SS X W (.Assign [.Tuple ts k1 p1] (.Tuple es k2 p2) pos) (fParM is fm) := by
  obtain ⟨t, pt, vt⟩ := ha.ex
  obtain ⟨g, pg, hl, vg⟩ := hg.ex
  refine ⟨_, ps_asg (pe_tup pt) (pg_tup (n := ts.length) hc pg hn hst) hs hw h1, fun p env M σ o ok er h D k => ?_⟩
  obtain ⟨⟨ms, M1⟩, e1, h⟩ := bind_some h
  simp only at h
  split at h
  · rename_i hl2
    cases h
    refine vt p env M σ ms M1 ok er e1 _ fun q xs l m ok1 r => ?_
    obtain ⟨as, h2, h3, h4⟩ := alcM_ok r ok1
    have l2 := alcM_le (G := gx X) (M := M) l h4
    have hx : xs.length = (alcM ms M1).1.length := h3.length
    have hms : ms.length = xs.length := r.length
    refine ⟨Nat.le_trans (show xs.length ≤ 100 by rw [← hms]; exact hes _ _ _ _ e1) (by decide), fun T hT => ?_⟩
    have okT : Ok (gx X) (Ps.shd ⟨q.m ++ as, q.S, q.H⟩ T (.tup xs)) _ := h2.shd hT
    have lT : Le ⟨q.m ++ as, q.S, q.H⟩ (Ps.shd ⟨q.m ++ as, q.S, q.H⟩ T (.tup xs)) := Le.shd hT (h2.S_none hT)
    refine ⟨T, xs, rfl, SqT.of upd_same, by rw [hx, ← hl2, hl], ?_⟩
    exact vg (Ps.shd ⟨q.m ++ as, q.S, q.H⟩ T (.tup xs)) xs _ env σ (er.mono (l2.trans lT)) (lT.reps h3) hl2 _ fun σ' er' _ => k _ σ' (l2.trans lT) okT er'
  · cases h
/-- name = [e, ..], the list's items new lists -/
theorem ss_setLstM {i : Nat} {x : Str} {pos' p2 : Pos} (hN : X.N.Nodup) (ha : SM X es fm) (hi : X.N[i]? = some x := by rfl) (hx : Loc X.env.scope x := by first | exact .inl rfl | exact .inr rfl) (hs : swapsWith (.List es p2) (some (.Name x pos')) pos.line X.env = pure false := by rfl)
    (hf : X.fn x = true ∨ X.env.scope.names.lookup x = some .local := by first | exact .inl rfl | exact .inr rfl | assumption) : SS X W (.Assign [.Name x pos'] (.List es p2) pos) (fLstM i fm) := by
  obtain ⟨t, pt, vt⟩ := ha.ex
  refine ⟨_, ps_set hN hi hx (pe_lst pt) hs hf, fun p env M σ o ok er h D k => ?_⟩
  obtain ⟨⟨ms, M1⟩, e1, h⟩ := bind_some h
  simp only at h
  split at h
  · rename_i hl2
    cases h
    refine vt p env M σ ms M1 ok er e1 _ fun q xs l m ok1 r => ?_
    obtain ⟨as, h2, h3, h4⟩ := alcM_ok r ok1
    have l2 := alcM_le (G := gx X) (M := M) l h4
    refine ⟨by rw [h3.length]; exact lim_line hl2, fun T hT => ?_⟩
    have okT : Ok (gx X) (Ps.shd ⟨q.m ++ as, q.S, q.H⟩ T (.lst xs)) _ := h2.shd hT
    have lT : Le ⟨q.m ++ as, q.S, q.H⟩ (Ps.shd ⟨q.m ++ as, q.S, q.H⟩ T (.lst xs)) := Le.shd hT (h2.S_none hT)
    exact k _ _ (l2.trans lT) okT ((er.mono (l2.trans lT)).set (.lst upd_same (lT.reps h3)))
  · cases h
theorem ss_retTupM {k2 : Nat} {p2 : Pos} (ha : SM X es fm) : SS X W (.Return (some (.Tuple es k2 p2)) pos) (fRetTupM fm) := by
  obtain ⟨t, pt, vt⟩ := ha.ex
  refine ⟨_, ps_ret (pe_tup pt), fun p env M σ o ok er h D k => ?_⟩
  obtain ⟨⟨ms, M1⟩, e1, h⟩ := bind_some h
  simp only at h
  split at h
  · rename_i hl2
    cases h
    refine vt p env M σ ms M1 ok er e1 _ fun q xs l m ok1 r => ?_
    obtain ⟨as, h2, h3, h4⟩ := alcM_ok r ok1
    have l2 := alcM_le (G := gx X) (M := M) l h4
    refine ⟨by rw [h3.length]; exact lim_line hl2, fun T hT => ?_⟩
    have okT : Ok (gx X) (Ps.shd ⟨q.m ++ as, q.S, q.H⟩ T (.tup xs)) _ := h2.shd hT
    have lT : Le ⟨q.m ++ as, q.S, q.H⟩ (Ps.shd ⟨q.m ++ as, q.S, q.H⟩ T (.tup xs)) := Le.shd hT (h2.S_none hT)
    exact k _ _ (l2.trans lT) okT (.tup upd_same (lT.reps h3))
  · cases h
end
end BX

set_option Elab.async false
set_option linter.all false
set_option maxRecDepth 100000
set_option maxHeartbeats 2000000
/-! BX14: a tuple that is handed back with new lists in it. -/
namespace BX
open PySem L2

def thawL (j : Nat) (M : List MO) : List D → Option (List Mx × List Nat)
  | [] => some ([], [])
  | .loc k :: ds => if k < j then none else match M[k]? with
    | some (.lst xs) => if nls xs = true then (thawL j M ds).map fun r => (.n xs :: r.1, k :: r.2) else none
    | _ => none
  | d :: ds => if nl d = true then (thawL j M ds).map fun r => (.d d :: r.1, r.2) else none
def mCallT (F : Fn) (js : List Bool) (args : FA) (env : En) (M : List MO) : Option (List Mx × List MO) := (args env M).bind fun r => (prep js r.1 0).bind fun pr => if distinct pr.2 = true then
    (getAll r.2 pr.2).bind fun M0 => (F pr.1 M0).bind fun o => match o with
      | .rt (.tup ds) M' => (thawL pr.2.length M' ds).bind fun t => if distinct t.2 = true then (putAll r.2 pr.2 M').map fun M2 => (t.1, M2) else none
      | _ => none
  else none
def fThaw (i : Nat) (fm : FM) (env : En) (M : List MO) : Option Out := (fm env M).map fun r => let s := alcM r.1 r.2; .nx (env.set i (some (.tup s.1))) s.2
theorem thaw_d {d : D} {G : Gx} {w : Ps} {M' : List MO} {m : List Addr} {j : Nat} {ds : List D} {x : V} {xs : List V} {ms : List Mx} {ks : List Nat} {H0 : Hp} (h : (if nl d = true then (thawL j M' ds).map fun r => (Mx.d d :: r.1, r.2) else none) = some (ms, ks)) (h1 : Rep G.K w.S w.m x d)
    (ih : ∀ ms', thawL j M' ds = some (ms', ks) → RepM G ⟨m, w.S, w.H⟩ H0 xs ms') : RepM G ⟨m, w.S, w.H⟩ H0 (x :: xs) ms := by
  split at h
  · rename_i hn
    obtain ⟨⟨ms', ks'⟩, e1, e2⟩ := map_some h
    cases e2
    exact .d (h1.of_nl hn) (ih _ e1)
  · cases h
theorem thaw_ok {G : Gx} {w : Ps} {M' : List MO} {m : List Addr} {j : Nat} (ok : Ok G w M') : ∀ {ds : List D} {xs : List V} {ms : List Mx} {ks : List Nat} {H0 : Hp}, thawL j M' ds = some (ms, ks) → Reps G.K w.S w.m xs ds → distinct ks = true → (∀ k a, k ∈ ks → w.m[k]? = some a → H0 a = none ∧ a ∉ m) → RepM G ⟨m, w.S, w.H⟩ H0 xs ms
  | [], _, ms, ks, H0, h, .nil, _, _ => by
    cases h
    exact .nil
  | .loc k :: ds, _, ms, ks, H0, h, .cons (v := v) h1 h2, hd, hf => by
    rw [thawL] at h
    split at h
    · cases h
    · split at h
      · rename_i xs hm
        split at h
        · rename_i hn
          obtain ⟨⟨ms', ks'⟩, e1, e2⟩ := map_some h
          cases e2
          simp only [distinct, Bool.and_eq_true, Bool.not_eq_true', List.contains_eq_mem, decide_eq_false_iff_not] at hd
          cases h1 with
          | @loc a _ hk =>
            obtain ⟨ys, h3, h4⟩ := ok.lst hk hm
            refine .n (hf k a List.mem_cons_self hk).1 (hf k a List.mem_cons_self hk).2 (ok.apart a (List.mem_of_getElem? hk)) h3 (h4.of_nl hn) (thaw_ok ok e1 h2 hd.2 fun k' a' hk' ha' => ?_)
            have hne : a' ≠ a := fun e => by
              subst e
              obtain ⟨b1, b2⟩ := List.getElem?_eq_some_iff.mp hk
              obtain ⟨b3, b4⟩ := List.getElem?_eq_some_iff.mp ha'
              have ek : k = k' := (List.getElem_inj ok.nd).mp (b2.trans b4.symm)
              subst ek
              exact hd.1 hk'
            rw [upd_ne hne]
            exact hf k' a' (List.mem_cons_of_mem _ hk') ha'
        · cases h
      · cases h
  | .non :: ds, _, ms, ks, H0, h, .cons h1 h2, hd, hf => thaw_d h h1 fun ms' e => thaw_ok ok e h2 hd hf
  | .bl _ :: ds, _, ms, ks, H0, h, .cons h1 h2, hd, hf => thaw_d h h1 fun ms' e => thaw_ok ok e h2 hd hf
  | .int _ :: ds, _, ms, ks, H0, h, .cons h1 h2, hd, hf => thaw_d h h1 fun ms' e => thaw_ok ok e h2 hd hf
  | .str _ :: ds, _, ms, ks, H0, h, .cons h1 h2, hd, hf => thaw_d h h1 fun ms' e => thaw_ok ok e h2 hd hf
  | .lst _ :: ds, _, ms, ks, H0, h, .cons h1 h2, hd, hf => thaw_d h h1 fun ms' e => thaw_ok ok e h2 hd hf
  | .tup _ :: ds, _, ms, ks, H0, h, .cons h1 h2, hd, hf => thaw_d h h1 fun ms' e => thaw_ok ok e h2 hd hf
  | .frz _ :: ds, _, ms, ks, H0, h, .cons h1 h2, hd, hf => thaw_d h h1 fun ms' e => thaw_ok ok e h2 hd hf
  | .emp :: ds, _, ms, ks, H0, h, .cons h1 h2, hd, hf => thaw_d h h1 fun ms' e => thaw_ok ok e h2 hd hf
  | .exn _ :: ds, _, ms, ks, H0, h, .cons h1 h2, hd, hf => thaw_d h h1 fun ms' e => thaw_ok ok e h2 hd hf
  | .obj _ _ :: ds, _, ms, ks, H0, h, .cons h1 h2, hd, hf => thaw_d h h1 fun ms' e => thaw_ok ok e h2 hd hf
theorem thawL_ge {j : Nat} {M : List MO} : ∀ {ds : List D} {ms : List Mx} {ks : List Nat}, thawL j M ds = some (ms, ks) → ∀ k ∈ ks, j ≤ k
  | [], ms, ks, h, k, hk => by cases h; cases hk
  | .loc n :: ds, ms, ks, h, k, hk => by
    rw [thawL] at h
    split at h
    · cases h
    · rename_i hn
      split at h
      · split at h
        · obtain ⟨⟨ms', ks'⟩, e1, e2⟩ := map_some h
          cases e2
          rcases List.mem_cons.mp hk with rfl | hk
          · omega
          · exact thawL_ge e1 k hk
        · cases h
      · cases h
  | .non :: ds, ms, ks, h, k, hk => by
    simp only [thawL, nl, if_true] at h
    obtain ⟨⟨ms', ks'⟩, e1, e2⟩ := map_some h
    cases e2
    exact thawL_ge e1 k hk
  | .bl _ :: ds, ms, ks, h, k, hk => by
    simp only [thawL, nl, if_true] at h
    obtain ⟨⟨ms', ks'⟩, e1, e2⟩ := map_some h
    cases e2
    exact thawL_ge e1 k hk
  | .int _ :: ds, ms, ks, h, k, hk => by
    simp only [thawL, nl, if_true] at h
    obtain ⟨⟨ms', ks'⟩, e1, e2⟩ := map_some h
    cases e2
    exact thawL_ge e1 k hk
  | .str _ :: ds, ms, ks, h, k, hk => by
    simp only [thawL, nl, if_true] at h
    obtain ⟨⟨ms', ks'⟩, e1, e2⟩ := map_some h
    cases e2
    exact thawL_ge e1 k hk
  | .emp :: ds, ms, ks, h, k, hk => by
    simp only [thawL, nl, if_true] at h
    obtain ⟨⟨ms', ks'⟩, e1, e2⟩ := map_some h
    cases e2
    exact thawL_ge e1 k hk
  | .exn _ :: ds, ms, ks, h, k, hk => by
    simp only [thawL, nl, if_true] at h
    obtain ⟨⟨ms', ks'⟩, e1, e2⟩ := map_some h
    cases e2
    exact thawL_ge e1 k hk
  | .lst _ :: ds, ms, ks, h, k, hk => by
    simp only [thawL] at h
    split at h
    · obtain ⟨⟨ms', ks'⟩, e1, e2⟩ := map_some h
      cases e2
      exact thawL_ge e1 k hk
    · cases h
  | .tup _ :: ds, ms, ks, h, k, hk => by
    simp only [thawL] at h
    split at h
    · obtain ⟨⟨ms', ks'⟩, e1, e2⟩ := map_some h
      cases e2
      exact thawL_ge e1 k hk
    · cases h
  | .obj _ _ :: ds, ms, ks, h, k, hk => by
    simp only [thawL] at h
    split at h
    · obtain ⟨⟨ms', ks'⟩, e1, e2⟩ := map_some h
      cases e2
      exact thawL_ge e1 k hk
    · cases h
  | .frz _ :: ds, ms, ks, h, k, hk => by
    simp only [thawL] at h
    split at h
    · obtain ⟨⟨ms', ks'⟩, e1, e2⟩ := map_some h
      cases e2
      exact thawL_ge e1 k hk
    · cases h
section
variable {X : Cx} {W : Nat → Hp → Prop} {e : Expr} {es : List Expr} {pos : Pos} {fs : FA} {x : Str} {k : Nat} {ps : List Str} {F : Fn} {js : List Bool} {cls : Nat → Value}
/-- name = f(..), a tuple whose new lists are mutable from here on -/
theorem ss_setThaw {i : Nat} {y : Str} {pos' q : Pos} {n : Nat} (hN : X.N.Nodup) (c : Cal X.prog X.w X.K X.mg X.base k x ps (spF (gx X) cls n F)) (js : List Bool) (ha : SAn X (e :: es) fs n) (hr : Room k X.A) (hg : Gl X x) (hdb : (x == ("__debug__" : Str)) = false := by decide)
    (he : starEach (e :: es) X.env = (false, eval e X.env) :: starEach es X.env := by rfl) (hpl : (backTo q (starEach es X.env)).any (·.1) = false := by rfl)
    (hi : X.N[i]? = some y := by rfl) (hy : Loc X.env.scope y := by first | exact .inl rfl | exact .inr rfl) {q2 : Pos} (hs : swapsWith (.Call (.Name x q2) (e :: es) [] q) (some (.Name y pos')) pos.line X.env = pure false := by rfl)
    (hf : X.fn y = true ∨ X.env.scope.names.lookup y = some .local := by first | exact .inl rfl | exact .inr rfl | assumption) : SS X W (.Assign [.Name y pos'] (.Call (.Name x q2) (e :: es) [] q) pos) (fThaw i (mCallT F js fs)) := by
  obtain ⟨t, pt, vt⟩ := ha.a.ex
  obtain ⟨f, fd, F1, hm, hk, hb⟩ := c.ex
  refine ⟨_, ps_set hN hi hy (pe_call F1 hr hg hm hk hb .nil pass0 pt hdb he hpl) hs hf, fun p env M σ o ok er h D kk => ?_⟩
  obtain ⟨⟨ms, M9⟩, e0, h⟩ := map_some h
  subst h
  obtain ⟨⟨ds, M1⟩, e1, h1⟩ := bind_some e0
  obtain ⟨⟨ds', ks⟩, e2, h1⟩ := bind_some h1
  split at h1
  · rename_i hd
    obtain ⟨M0, e3, h1⟩ := bind_some h1
    obtain ⟨o, e4, h1⟩ := bind_some h1
    split at h1
    · rename_i d1 M'
      obtain ⟨⟨ms', tk⟩, e5, h1⟩ := bind_some h1
      split at h1
      · rename_i hd2
        obtain ⟨N', e6, h1⟩ := map_some h1
        cases h1
        refine vt p env M σ ds M1 ok er e1 _ fun q xs l m ok1 r => ?_
        obtain ⟨as, a1, a2, a3, a4⟩ := prep_ok [] rfl e2 r
        simp only [List.nil_append] at a3
        refine ⟨⟨as, q.S, q.H⟩, M0, ds', .rt (.tup d1) M', ?_, rfl, callee_ok ok1 a1 a2 hd e3, ?_, e4, fun w y l2 ok2 ry => ?_⟩
        · rw [List.append_nil, r.length]
          exact ha.n _ _ _ _ e1
        · rw [List.append_nil]
          exact a3
        · obtain ⟨l3, ok3⟩ := caller_ok (S' := w.S) ok1 a1 a2 hd e3 l2 ok2 e6 (fun _ _ z => z) fun a o z => .inl z
          cases ry with
          | @tup T us _ hT hus =>
            have hw : ∀ k a, k ∈ tk → w.m[k]? = some a → q.H a = none := fun k a hk ha => by
              have hge := thawL_ge e5 k hk
              rcases l2.nm a (List.mem_of_getElem? ha) with z | z
              · obtain ⟨t, ht⟩ := l2.m
                have ht' : w.m = as ++ t := ht
                obtain ⟨j, hj, ej⟩ := List.getElem_of_mem z
                have hwj : w.m[j]? = some a := by rw [ht', List.getElem?_append_left hj, ← ej]; exact List.getElem?_eq_getElem hj
                obtain ⟨b1, b2⟩ := List.getElem?_eq_some_iff.mp hwj
                obtain ⟨b3, b4⟩ := List.getElem?_eq_some_iff.mp ha
                have := (List.getElem_inj ok2.nd).mp (b2.trans b4.symm)
                have hj2 : j < as.length := hj
                have hge2 : ks.length ≤ k := hge
                omega
              · exact z
            have rm := thaw_ok (m := q.m) ok2 e5 hus hd2 fun k a h1 h2 => ⟨hw k a h1 h2, ok1.not_m (hw k a h1 h2)⟩
            obtain ⟨bs, h2, h3, h4⟩ := alcM_ok rm ok3
            have l4 : Le p ⟨q.m ++ bs, w.S, w.H⟩ := alcM_le (G := gx X) (M := M) (q := ⟨q.m, w.S, w.H⟩) (l.trans l3) fun a ha => l.fresh (h4 a ha)
            exact kk ⟨q.m ++ bs, w.S, w.H⟩ _ l4 h2 ((er.mono l4).set (.tup hT h3))
      · cases h1
    · cases h1
  · cases h1
end
end BX

set_option Elab.async false
set_option linter.all false
set_option maxRecDepth 100000
set_option maxHeartbeats 2000000
/-! BX15: module constants, walks over lists that may still change. -/
namespace BX
open PySem L2
section
variable {X : Cx} {e a b c elt tg iter : Expr} {pos q : Pos} {fa fb fc fe : FE} {W : Nat → Hp → Prop}
theorem se_gint {x : Str} {n : Int} (hg : Gl X x) (hm : ∃ t, X.mg x = some (.int n t)) (hd : (x == ("__debug__" : Str)) = false := by decide) : SE X (.Name x pos) (eC (.int n)) := by
  obtain ⟨t, ht⟩ := hm
  refine ⟨_, pe_glob (v := .int n) hg ht ⟨t, rfl⟩ hd, fun p env M σ d M' ok er h Q k => ?_⟩
  cases h
  exact k p _ (.refl p) rfl ok (.int n)
/-! ### a list that may still change, walked -/
@[irreducible] def fuelK : Nat := 10000
theorem fuelK_eq : fuelK = 10000 := by unfold fuelK; rfl
def lcs : D → Option Nat
  | .loc k => some k
  | _ => none
def compK (pt : Pat) (ft : FT) (fe : FE) (k : Nat) (env : En) : Nat → Nat → List MO → Option (List D × List MO)
  | 0, _, _ => none
  | n + 1, i, M => match M[k]? with
    | some (.lst ds) => match ds[i]? with
      | none => some ([], M)
      | some d => (bindP pt d env).bind fun e1 => (ft e1 M).bind fun r => if r.1 = true then (fe e1 r.2).bind fun s => (compK pt ft fe k env n (i + 1) s.2).map fun t => (s.1 :: t.1, t.2) else compK pt ft fe k env n (i + 1) r.2
    | _ => none
def nCompK (src : FE) (vs : List Nat) (pt : Pat) (ft : FT) (fe : FE) (env : En) (M : List MO) : Option (List D × List MO) := (src env M).bind fun r => (lcs r.1).bind fun k => compK pt ft fe k (wipeE env vs) fuelK 0 r.2
theorem evn_compK {G : Gx} {ti : TE} {src : FE} {vs : List Nat} {pt : Pat} {ft : FT} {fe : FE} (hi : Ev G ti src) (hv : ∀ i ∈ pt.slots, i ∈ vs) :
    EvN G (tLc (iSeqT G.K ti) (tgAny G pt) (ttAny G ft) (teAny G fe) vs) (nCompK src vs pt ft fe) := by
  intro p env M σ fin M' ok er h Q kk
  obtain ⟨⟨d0, M1⟩, e1, h⟩ := bind_some h
  obtain ⟨k, e2, h⟩ := bind_some h
  refine hi p env M σ d0 M1 ok er e1 _ fun q x l m ok1 rx0 => ?_
  cases rx0 with
  | @loc a _ hk =>
    cases e2
    have hM0 : ∃ ds, M1[k]? = some (.lst ds) := by
      rw [fuelK_eq, compK] at h
      split at h
      · exact ⟨_, by assumption⟩
      · cases h
    obtain ⟨ds0, hM0⟩ := hM0
    obtain ⟨xs0, hx0, _⟩ := ok1.lst hk hM0
    refine ⟨a, rfl, .inl ⟨⟨xs0, SqL.of hx0⟩, fun P hP => ?_⟩⟩
    have hS := ok1.S_none hP
    have hM := ok1.not_m hP
    have haP : a ≠ P := fun e => by rw [e, hP] at hx0; cases hx0
    refine ⟨fun i n H => ∃ (r : Ps) (Mi : List MO) (acc : List V) (done rest : List D), i + n = fuelK ∧ Le q r ∧ P ∉ r.m ∧ Ok G r Mi ∧ r.H = H ∧ r.S P = none ∧ r.H P = some (.lst acc) ∧ Reps G.K r.S r.m acc done ∧ done.length ≤ i ∧
        compK pt ft fe k (wipeE env vs) n i Mi = some (rest, M') ∧ done ++ rest = fin,
      ⟨fuelK, q.put P (.lst []), M1, [], [], fin, Nat.zero_add _, Le.pend hP, hM, ok1.pend hS hM, rfl, hS, upd_same, .nil, Nat.zero_le _, h, rfl⟩, ?_⟩
    rintro i n H ⟨r, Mi, acc, done, rest, hin, lr, hPm, okr, rfl, hrS, hrP, rr, hd, hc, hf⟩
    cases n with
    | zero => cases hc
    | succ n =>
      rw [compK] at hc
      have hkr : r.m[k]? = some a := lr.mget hk
      split at hc
      · rename_i ds hMi
        obtain ⟨xs, hxs, rxs⟩ := okr.lst hkr hMi
        split at hc
        · rename_i hnone
          cases hc
          rw [List.append_nil] at hf
          subst hf
          refine .inl ⟨⟨xs, SqL.of hxs, ?_⟩, kk r P acc (l.trans lr) hPm (l.fresh hP) hrS okr hrP rr⟩
          rw [rxs.length]
          exact List.getElem?_eq_none_iff.mp hnone
        · rename_i d hds
          obtain ⟨x, hx, rx⟩ := rxs.get hds
          refine .inr ⟨⟨xs, x, SqL.of hxs, hx⟩, fun H' => ∃ (r : Ps) (Mi : List MO) (acc : List V) (done rest : List D), i + 1 + n = fuelK ∧ Le q r ∧ P ∉ r.m ∧ Ok G r Mi ∧ r.H = H' ∧ r.S P = none ∧ r.H P = some (.lst acc) ∧ Reps G.K r.S r.m acc done ∧ done.length ≤ i + 1 ∧
              compK pt ft fe k (wipeE env vs) n (i + 1) Mi = some (rest, M') ∧ done ++ rest = fin, fun H' z => ?_, fun x1 H' y => ?_⟩
          · obtain ⟨r, Mi, acc, done, rest, z⟩ := z
            exact ⟨n, Nat.lt_succ_self n, r, Mi, acc, done, rest, z⟩
          · obtain ⟨rfl, y⟩ := y
            have hy := y xs (SqL.of hxs)
            rw [hx] at hy
            cases hy
            obtain ⟨en, e3, hc⟩ := bind_some hc
            obtain ⟨⟨b, M2⟩, e4, hc⟩ := bind_some hc
            refine ⟨r, Mi, d, wipeE env vs, en, rfl, okr, (er.mono (l.trans lr)).wipe vs, rx, e3, fun σ' er2 hw => ⟨(hw vs hv).trans ?_, ?_⟩⟩
            · clear hw er2 kk hc
              apply List.ext_getElem?
              intro j
              by_cases hj : j ∈ vs
              · by_cases hjl : j < σ.length
                · rw [wipe_get hj hjl, wipe_get hj (by rw [wipe_length]; exact hjl)]
                · rw [List.getElem?_eq_none (by rw [wipe_length, wipe_length]; omega), List.getElem?_eq_none (by rw [wipe_length]; omega)]
              · rw [wipe_out hj]
            · refine ⟨r, Mi, en, b, M2, rfl, okr, er2, e4, fun q2 l2 m2 ok3 => ?_⟩
              have pS2 : q2.S P = none := l2.nw P _ hrS hrP
              have pH2 : q2.H P = some (.lst acc) := l2.fr P _ hrP hPm
              have hPm2 : P ∉ q2.m := l2.nin hrP hPm
              have lq2 : Le q q2 := lr.trans l2
              cases b with
              | true =>
                simp only [if_true] at hc ⊢
                obtain ⟨⟨d2, M3⟩, e5, hc⟩ := bind_some hc
                obtain ⟨⟨ts, M4⟩, e6, hc⟩ := map_some hc
                cases hc
                refine ⟨q2, M2, en, d2, M3, rfl, ok3, er2.mono l2, e5, fun q3 z l3 m3 ok4 rz => ?_⟩
                have pS3 : q3.S P = none := l3.nw P _ pS2 pH2
                have pH3 : q3.H P = some (.lst acc) := l3.fr P _ pH2 hPm2
                have hPm3 : P ∉ q3.m := l3.nin pH2 hPm2
                have lq3 : Le q q3 := lq2.trans l3
                have hal : acc.length ≤ i := by rw [rr.length]; exact hd
                have hl1 : acc.length < sizeLine := Nat.lt_of_lt_of_le (show acc.length < 10001 by rw [fuelK_eq] at hin; omega) (by decide)
                refine ⟨acc, pH3, hl1, q3.put P (.lst (acc ++ [z])), M3, acc ++ [z], done ++ [d2], ts, by omega, lq3.repend hP, hPm3, ok4.pend pS3 hPm3, rfl, pS3, upd_same, ?_, ?_, e6, ?_⟩
                · exact ((l2.trans l3).reps rr).snoc rz
                · rw [List.length_append]; simp; exact hd
                · rw [List.append_assoc]; exact hf
              | false =>
                simp only [Bool.false_eq_true, if_false] at hc ⊢
                exact ⟨q2, M2, acc, done, rest, by omega, lq2, hPm2, ok3, rfl, pS2, pH2, l2.reps rr, Nat.le_succ_of_le hd, hc, hf⟩
      · cases hc
  | _ => cases e2
theorem sn_compK {ifs : List Expr} {scope : Scope} {own : List (Str × Nat)} {src : FE} {pt : Pat} {ft : FT} (hc : X.calm = true) (hN : X.N.Nodup) (hi : SE X iter src) (ok : BlkOk X.N X.env.scope scope own) (hv : ∀ i ∈ pt.slots, i ∈ own.map (·.2)) (b : Blk X scope tg elt ifs pt ft fe)
    (hs : ∀ x, foldedSetIterable iter X.env x = pure x := by intro _; rfl) : SN X (.ListComp elt [⟨tg, iter, ifs, 0⟩] scope pos) (nCompK src (own.map (·.2)) pt ft fe) := by
  obtain ⟨ti, pi, vi⟩ := hi.ex
  refine ⟨_, pe_lc (g := tgAny (gx X) pt) (tt := ttAny (gx X) ft) (te := teAny (gx X) fe) hc hN (pi_seq pi) ok (fun s H C cl fp => pg_any (b.g s H C cl fp)) (fun s H C cl fp => pts_any (b.t s H C cl fp)) (fun s H C cl fp => pe_any (b.e s H C cl fp)) hs, evn_compK vi hv⟩
def forK (pt : Pat) (body : FS) (k : Nat) : Nat → Nat → En → List MO → Option Out
  | 0, _, _, _ => none
  | n + 1, i, env, M => match M[k]? with
    | some (.lst ds) => match ds[i]? with
      | none => some (.nx env M)
      | some d => (bindP pt d env).bind fun e1 => (body e1 M).bind fun o => match o with
        | .nx e m => forK pt body k n (i + 1) e m
        | .ct e m => forK pt body k n (i + 1) e m
        | .bk e m => some (.nx e m)
        | o => some o
    | _ => none
def fForK (src : FE) (pt : Pat) (body : FS) (env : En) (M : List MO) : Option Out := (src env M).bind fun r => (lcs r.1).bind fun k => forK pt body k fuelK 0 env r.2
theorem ss_forK {sts : List Stmt} {f : FS} {src : FE} {pt : Pat} (hp : PassesOwn (model X.prog X.w) X.A X.env X.xe) (hc : X.calm = true) (hi : SE X iter src) (hg : SG X tg pt) (hb : SB X W sts f)
    (hs : ∀ x, foldedSetIterable iter X.env x = pure x := by intro _; rfl) : SS X W (.For tg iter sts [] pos) (fForK src pt f) := by
  obtain ⟨ti, pi, vi⟩ := hi.ex
  obtain ⟨g, pg, vg⟩ := hg.ex
  obtain ⟨tb, pb, vb⟩ := hb.ex
  refine ⟨_, ps_for hp hc (pi_seq pi) pg pb hs, fun p env M σ o ok er h D k => ?_⟩
  obtain ⟨⟨d0, M1⟩, e1, h⟩ := bind_some h
  obtain ⟨j, e2, h⟩ := bind_some h
  refine vi p env M σ d0 M1 ok er e1 _ fun q x l m ok1 rx0 => ?_
  cases rx0 with
  | @loc a _ hk =>
    cases e2
    have hM0 : ∃ ds, M1[j]? = some (.lst ds) := by
      rw [fuelK_eq, forK] at h
      split at h
      · exact ⟨_, by assumption⟩
      · cases h
    obtain ⟨ds0, hM0⟩ := hM0
    obtain ⟨xs0, hx0, _⟩ := ok1.lst hk hM0
    refine ⟨a, rfl, .inl ⟨⟨xs0, SqL.of hx0⟩, ?_⟩⟩
    refine ⟨fun i n σ H => ∃ (r : Ps) (en : En) (Mi : List MO), Le q r ∧ r.H = H ∧ Ok (gx X) r Mi ∧ EnvR (gx X) r en σ ∧ forK pt f j n i en Mi = some o,
      ⟨fuelK, q, env, M1, .refl q, rfl, ok1, er.mono l, h⟩, ?_⟩
    rintro i n σ1 H1 ⟨r, en, Mi, lr, rfl, okr, err, hf⟩
    cases n with
    | zero => cases hf
    | succ n =>
      rw [forK] at hf
      have hkr : r.m[j]? = some a := lr.mget hk
      split at hf
      · rename_i ds hMi
        obtain ⟨xs, hxs, rxs⟩ := okr.lst hkr hMi
        split at hf
        · rename_i hnone
          cases hf
          refine .inl ⟨⟨xs, SqL.of hxs, ?_⟩, k r σ1 (l.trans lr) okr err⟩
          rw [rxs.length]
          exact List.getElem?_eq_none_iff.mp hnone
        · rename_i d hds
          obtain ⟨x, hx, rx⟩ := rxs.get hds
          refine .inr ⟨⟨xs, x, SqL.of hxs, hx⟩, fun σ' H' => ∃ (r : Ps) (en : En) (Mi : List MO), Le q r ∧ r.H = H' ∧ Ok (gx X) r Mi ∧ EnvR (gx X) r en σ' ∧ forK pt f j n (i + 1) en Mi = some o, fun σ' H' z => ?_, fun x1 H' y => ?_⟩
          · obtain ⟨r, en, Mi, z⟩ := z
            exact ⟨n, Nat.lt_succ_self n, r, en, Mi, z⟩
          · obtain ⟨rfl, y⟩ := y
            have hy := y xs (SqL.of hxs)
            rw [hx] at hy
            cases hy
            obtain ⟨en1, e3, hf⟩ := bind_some hf
            obtain ⟨o1, e4, hf⟩ := bind_some hf
            refine vg r Mi x d en en1 σ1 okr err rx e3 _ fun σ' er2 _ => ?_
            refine vb r en1 Mi σ' o1 okr er2 e4 _ ?_
            cases o1 with
            | nx e M => exact fun w σ2 l2 ok3 er3 => ⟨w, e, M, lr.trans l2, rfl, ok3, er3, hf⟩
            | ct e M => exact fun w σ2 l2 ok3 er3 => ⟨w, e, M, lr.trans l2, rfl, ok3, er3, hf⟩
            | bk e M =>
              cases hf
              exact fun w σ2 l2 ok3 er3 => k w σ2 (l.trans (lr.trans l2)) ok3 er3
            | rt d M =>
              cases hf
              exact fun w x l2 ok3 er3 => k w x (l.trans (lr.trans l2)) ok3 er3
            | ex c =>
              cases hf
              exact fun w l2 => k w (l.trans (lr.trans l2))
      · cases hf
  | _ => cases e2
end
end BX

set_option Elab.async false
set_option linter.all false
set_option maxRecDepth 100000
set_option maxHeartbeats 2000000
/-! BX16: a tuple handed on, its new lists still mutable; more doors. -/
namespace BX
open PySem L2
/-- a op1 b op2 c op3 d -/
def tChain3 (r r' r3 : R2) (ta tb tc td : TE) : TE := fun σ H Q => ta σ H fun x H1 => tb σ H1 fun y H2 => r x y H2 fun z H3 => ∃ k, z = .bl k ∧
  (if k = true then tc σ H3 fun w' H4 => r' y w' H4 fun z2 H5 => ∃ k2, z2 = .bl k2 ∧ (if k2 = true then td σ H5 fun u H6 => r3 w' u H6 Q else Q (.bl false) H5) else Q (.bl false) H3)
open PySem.Spec PyProof.Rows in
theorem pe_chain3 {X : Cx} {a b c d : Expr} {ta tb tc td : TE} {pos : Pos} {op op' op3 : CmpOp} {r r' r3 : R2} (ho : OpR X (compareOp op) r) (ho' : OpR X (compareOp op') r') (ho3 : OpR X (compareOp op3) r3) (ha : PE X a ta) (hb : PE X b tb) (hc : PE X c tc) (hd : PE X d td)
    (hm : lastMarks [op, op', op3] [b, c, d] = false := by with_unfolding_all rfl) : PE X (.Compare a [op, op', op3] [b, c, d] pos) (tChain3 r r' r3 ta tb tc td) := by
  refine ⟨fun pins s σ H Q I h => ?_⟩
  refine Compare_chain (thn (ha.run pins s σ H _ I h) fun v s1 ⟨x, H1, I1, r1, q1⟩ => chain_link (thn (hb.run pins s1 σ H1 _ I1 q1) fun u s2 ⟨y, H2, I2, r2, q2⟩ =>
    thn (ho pins s2 σ H2 x y v u _ I2 r1 r2 q2) fun d s3 ⟨z, H3, I3, r3, k, e, q3⟩ => ?_)) hm
  subst e
  cases r3
  refine wpAny_truthy_bool ?_
  cases k with
  | false => exact ite_ff ⟨.bl false, H3, I3, rfl, q3⟩
  | true =>
    refine ite_tt (chain_link (thn (hc.run pins s3 σ H3 _ I3 q3) fun w' s4 ⟨z', H4, I4, r4, q4⟩ => thn (ho' pins s4 σ H4 y z' u w' _ I4 r2 r4 q4) fun d2 s5 ⟨z5, H5, I5, r5, k5, e5, q5⟩ => ?_))
    subst e5
    cases r5
    refine wpAny_truthy_bool ?_
    cases k5 with
    | false => exact ite_ff ⟨.bl false, H5, I5, rfl, q5⟩
    | true => exact ite_tt (chain_last (thn (hd.run pins s5 σ H5 _ I5 q5) fun w6 s6 ⟨z6, H6, I6, r6, q6⟩ => ho3 pins s6 σ H6 z' z6 w' w6 Q I6 r4 r6 q6))
def eChain3 (g g' g3 : List MO → D → D → Option D) (a b c d : FE) (env : En) (M : List MO) : Option (D × List MO) := (a env M).bind fun r => (b env r.2).bind fun s => (g s.2 r.1 s.1).bind fun z => match z with
  | .bl true => (c env s.2).bind fun t => (g' t.2 s.1 t.1).bind fun z2 => match z2 with
    | .bl true => (d env t.2).bind fun u => (g3 u.2 t.1 u.1).map fun y => (y, u.2)
    | .bl false => some (.bl false, t.2)
    | _ => none
  | .bl false => some (.bl false, s.2)
  | _ => none
theorem ev_chain3 {r r' r3 : R2} {g g' g3 : List MO → D → D → Option D} {ta tb tc td : TE} {fa fb fc fd : FE} {G : Gx} (hr : RB G r g) (hr' : RB G r' g') (hr3 : RB G r3 g3) (ha : Ev G ta fa) (hb : Ev G tb fb) (hc : Ev G tc fc) (hd : Ev G td fd) : Ev G (tChain3 r r' r3 ta tb tc td) (eChain3 g g' g3 fa fb fc fd) := by
  intro p env M σ d M' ok er h Q k
  obtain ⟨⟨d1, M1⟩, h1, h⟩ := bind_some h
  obtain ⟨⟨d2, M2⟩, h2, h⟩ := bind_some h
  obtain ⟨z, h3, h⟩ := bind_some h
  refine ha p env M σ d1 M1 ok er h1 _ fun q x l1 m1 ok1 x1 => ?_
  refine hb q env M1 σ d2 M2 ok1 (er.mono l1) h2 _ fun u y l2 m2 ok2 y2 => ?_
  refine hr u M2 x y d1 d2 z ok2 (l2.rep x1) y2 h3 _ fun w v l3 m3 ok3 v3 => ?_
  have l13 := (l1.trans l2).trans l3
  have m13 := m3.trans (m2.trans m1)
  cases z with
  | bl c =>
    cases v3
    refine ⟨c, rfl, ?_⟩
    cases c with
    | true =>
      obtain ⟨⟨d4, M4⟩, h4, h⟩ := bind_some h
      obtain ⟨z5, h5, h⟩ := bind_some h
      show tc σ w.H _
      refine hc w env M2 σ d4 M4 ok3 (er.mono l13) h4 _ fun w4 x4 l4 m4 ok4 v4 => ?_
      refine hr' w4 M4 y x4 d2 d4 z5 ok4 ((l3.trans l4).rep y2) v4 h5 _ fun w5 v5 l5 m5 ok5 r5 => ?_
      have l15 := (l13.trans l4).trans l5
      have m15 := m5.trans (m4.trans m13)
      cases z5 with
      | bl c5 =>
        cases r5
        refine ⟨c5, rfl, ?_⟩
        cases c5 with
        | true =>
          obtain ⟨⟨d6, M6⟩, h6, h⟩ := bind_some h
          obtain ⟨z7, h7, h⟩ := map_some h
          cases h
          show td σ w5.H _
          refine hd w5 env M4 σ d6 M6 ok5 (er.mono l15) h6 _ fun w6 x6 l6 m6 ok6 v6 => ?_
          exact hr3 w6 M6 x4 x6 d4 d6 d ok6 ((l5.trans l6).rep v4) v6 h7 Q fun w7 v7 l7 m7 ok7 r7 => k w7 v7 ((l15.trans l6).trans l7) (m7.trans (m6.trans m15)) ok7 r7
        | false =>
          cases h
          show Q (.bl false) w5.H
          exact k w5 _ l15 m15 ok5 (.bl false)
      | _ => cases h
    | false =>
      cases h
      show Q (.bl false) w.H
      exact k w _ l13 m13 ok3 (.bl false)
  | _ => cases h
theorem se_leltlt {X : Cx} {a b c d : Expr} {fa fb fc fd : FE} {pos : Pos} (hu : X.A.units + 66 < cLine) (ha : SE X a fa) (hb : SE X b fb) (hc : SE X c fc) (hd : SE X d fd) (hm : lastMarks [.LtE, .Lt, .Lt] [b, c, d] = false := by with_unfolding_all rfl) : SE X (.Compare a [.LtE, .Lt, .Lt] [b, c, d] pos) (eChain3 gLe gLt gLt fa fb fc fd) := by
  obtain ⟨ta, pa, va⟩ := ha.ex
  obtain ⟨tb, pb, vb⟩ := hb.ex
  obtain ⟨tc, pc, vc⟩ := hc.ex
  obtain ⟨td, pd, vd⟩ := hd.ex
  exact ⟨_, pe_chain3 (op_leA (by omega)) (op_ltA (by omega)) (op_ltA (by omega)) pa pb pc pd hm, ev_chain3 rb_cmp rb_cmp rb_cmp va vb vc vd⟩
def fRetThaw (fm : FM) (env : En) (M : List MO) : Option Out := (fm env M).map fun r => let s := alcM r.1 r.2; .rt (.tup s.1) s.2
section
variable {X : Cx} {W : Nat → Hp → Prop} {e : Expr} {es : List Expr} {pos : Pos} {fs : FA} {x : Str} {k : Nat} {ps : List Str} {F : Fn} {js : List Bool} {cls : Nat → Value}
/-- return f(..), a tuple whose new lists stay mutable -/
theorem ss_retThaw {q : Pos} {n : Nat} (c : Cal X.prog X.w X.K X.mg X.base k x ps (spF (gx X) cls n F)) (js : List Bool) (ha : SAn X (e :: es) fs n) (hr : Room k X.A) (hg : Gl X x) (hdb : (x == ("__debug__" : Str)) = false := by decide)
    (he : starEach (e :: es) X.env = (false, eval e X.env) :: starEach es X.env := by rfl) (hpl : (backTo q (starEach es X.env)).any (·.1) = false := by rfl) {q2 : Pos} : SS X W (.Return (some (.Call (.Name x q2) (e :: es) [] q)) pos) (fRetThaw (mCallT F js fs)) := by
  obtain ⟨t, pt, vt⟩ := ha.a.ex
  obtain ⟨f, fd, F1, hm, hk, hb⟩ := c.ex
  refine ⟨_, ps_ret (pe_call F1 hr hg hm hk hb .nil pass0 pt hdb he hpl), fun p env M σ o ok er h D kk => ?_⟩
  obtain ⟨⟨ms, M9⟩, e0, h⟩ := map_some h
  subst h
  obtain ⟨⟨ds, M1⟩, e1, h1⟩ := bind_some e0
  obtain ⟨⟨ds', ks⟩, e2, h1⟩ := bind_some h1
  split at h1
  · rename_i hd
    obtain ⟨M0, e3, h1⟩ := bind_some h1
    obtain ⟨o, e4, h1⟩ := bind_some h1
    split at h1
    · rename_i d1 M'
      obtain ⟨⟨ms', tk⟩, e5, h1⟩ := bind_some h1
      split at h1
      · rename_i hd2
        obtain ⟨N', e6, h1⟩ := map_some h1
        cases h1
        refine vt p env M σ ds M1 ok er e1 _ fun q xs l m ok1 r => ?_
        obtain ⟨as, a1, a2, a3, a4⟩ := prep_ok [] rfl e2 r
        simp only [List.nil_append] at a3
        refine ⟨⟨as, q.S, q.H⟩, M0, ds', .rt (.tup d1) M', ?_, rfl, callee_ok ok1 a1 a2 hd e3, ?_, e4, fun w y l2 ok2 ry => ?_⟩
        · rw [List.append_nil, r.length]
          exact ha.n _ _ _ _ e1
        · rw [List.append_nil]
          exact a3
        · obtain ⟨l3, ok3⟩ := caller_ok (S' := w.S) ok1 a1 a2 hd e3 l2 ok2 e6 (fun _ _ z => z) fun a o z => .inl z
          cases ry with
          | @tup T us _ hT hus =>
            have hw : ∀ k a, k ∈ tk → w.m[k]? = some a → q.H a = none := fun k a hk ha => by
              have hge := thawL_ge e5 k hk
              rcases l2.nm a (List.mem_of_getElem? ha) with z | z
              · obtain ⟨t, ht⟩ := l2.m
                have ht' : w.m = as ++ t := ht
                obtain ⟨j, hj, ej⟩ := List.getElem_of_mem z
                have hwj : w.m[j]? = some a := by rw [ht', List.getElem?_append_left hj, ← ej]; exact List.getElem?_eq_getElem hj
                obtain ⟨b1, b2⟩ := List.getElem?_eq_some_iff.mp hwj
                obtain ⟨b3, b4⟩ := List.getElem?_eq_some_iff.mp ha
                have := (List.getElem_inj ok2.nd).mp (b2.trans b4.symm)
                have hj2 : j < as.length := hj
                have hge2 : ks.length ≤ k := hge
                omega
              · exact z
            have rm := thaw_ok (m := q.m) ok2 e5 hus hd2 fun k a h1 h2 => ⟨hw k a h1 h2, ok1.not_m (hw k a h1 h2)⟩
            obtain ⟨bs, h2, h3, h4⟩ := alcM_ok rm ok3
            have l4 : Le p ⟨q.m ++ bs, w.S, w.H⟩ := alcM_le (G := gx X) (M := M) (q := ⟨q.m, w.S, w.H⟩) (l.trans l3) fun a ha => l.fresh (h4 a ha)
            exact kk ⟨q.m ++ bs, w.S, w.H⟩ _ l4 h2 (.tup hT h3)
      · cases h1
    · cases h1
  · cases h1
end
end BX

set_option Elab.async false
set_option linter.all false
set_option maxRecDepth 100000
set_option maxHeartbeats 2000000
/-! BX17: the start. -/
namespace BX
open PySem L2
theorem reps_ints (K : PySem.W.Frag) (S : Hp) (m : List Addr) : ∀ ns : List Int, Reps K S m (ns.map V.int) (ns.map D.int)
  | [] => .nil
  | n :: ns => .cons (.int n) (reps_ints K S m ns)
theorem start_law {P : Program} {w : World} {K : PySem.W.Frag} {cls : Nat → Value} {F : Fn} {H : Hp} {a : Addr} {ns : List Int} {M' : List MO} (hS : SqL K H a (ns.map V.int)) (e : F [.frz (ns.map D.int)] [] = some (.rt (.bl true) M')) :
    spF ⟨P, w, K⟩ cls 1 F [.ref a] H (fun v _ => v = .bl true) fun _ _ _ => False := by
  refine ⟨⟨[], H, H⟩, [], [.frz (ns.map D.int)], _, rfl, rfl, ⟨fun _ _ z => z, List.nodup_nil, (fun a h => (by cases h)), rfl, (fun k a o h => (by simp at h))⟩, .cons (.frz hS (reps_ints _ _ _ ns)) .nil, e, fun q x l ok r => ?_⟩
  cases r
  rfl
end BX

set_option Elab.async false
set_option linter.all false
set_option maxRecDepth 100000
set_option maxHeartbeats 2000000
/-! BX18: dicts whose keys are tuples. -/
namespace BX
open PySem L2
section
variable {X : Cx} {pins : List (Addr × Obj)} {σ : St} {H S : Hp} {s : Shared}
mutual
/-- a datum that is a key is one in the heap -/
theorem Rep.nested (I : Inv X pins σ H s) (sub : ∀ a o, S a = some o → H a = some o) : ∀ {v : V} {d : D} {k : NestedKey} {u : Value}, Rep X.K S [] v d → RelV v u → nk d = some k → NestedIs s.heap k u
  | _, _, _, _, .non, r, h => by cases h; obtain rfl := (show _ = _ from r); exact .none
  | _, _, _, _, .bl b, r, h => by cases h; obtain rfl := (show _ = _ from r); exact .bool rfl
  | _, _, _, _, .int i, r, h => by cases h; obtain ⟨t, rfl⟩ := r; exact .int _ _
  | _, _, _, _, .str x, r, h => by cases h; obtain ⟨t, rfl⟩ := r; exact .text _ _
  | _, _, _, _, .tup (xs := xs) (ds := ds) hS hr, r, h => by
    obtain rfl := (show _ = _ from r)
    rw [nk] at h
    obtain ⟨ks, h1, h2⟩ := map_some h
    subst h2
    obtain ⟨its, rel, ⟨o, e1, e2, n, e3⟩, _⟩ := I.tuple (SqT.of (sub _ _ hS))
    exact .tup e1 e2 e3 (by simpa using Reps.nested I sub hr rel h1)
  | _, _, _, _, .lst _ _, _, h => by cases h
  | _, _, _, _, .frz _ _, _, h => by cases h
  | _, _, _, _, .loc _, _, h => by cases h
  | _, _, _, _, .emp _, _, h => by cases h
  | _, _, _, _, .obj _ _ _, _, h => by cases h
theorem Reps.nested (I : Inv X pins σ H s) (sub : ∀ a o, S a = some o → H a = some o) : ∀ {vs : List V} {ds : List D} {ks : List NestedKey} {us : List Value}, Reps X.K S [] vs ds → Vals vs us → nks ds = some ks → NestedAll s.heap ks us
  | _, _, _, _, .nil, .nil, h => by cases h; exact .nil
  | _, _, _, _, .cons h1 h2, .cons r1 r2, h => by
    rw [nks] at h
    obtain ⟨k, e1, h⟩ := bind_some h
    obtain ⟨ks, e2, h⟩ := map_some h
    subst h
    exact .cons (Rep.nested I sub h1 r1 e1) (Reps.nested I sub h2 r2 e2)
end
def isTupD : D → Bool
  | .tup _ => true
  | _ => false
def allTup (kvs : List (D × D)) : Bool := kvs.all fun q => isTupD q.1
/-- the key of a datum that may be one -/
def keyD (d : D) : Option NestedKey := if isTupD d = true then (nk d).bind fun k => if decide (k.depth ≤ 8) = true then some k else none else none
def findD (k : NestedKey) : List (D × D) → Option D
  | [] => none
  | q :: kvs => if nk q.1 = some k then some q.2 else findD k kvs
def storeD (k : NestedKey) (d v : D) (kvs : List (D × D)) : List (D × D) := if (findD k kvs).isSome = true then kvs.map fun q => if nk q.1 = some k then (q.1, v) else q else kvs ++ [(d, v)]
def dctL (M : List MO) : D → Option (Nat × List (D × D))
  | .loc j => match M[j]? with
    | some (.dct kvs) => some (j, kvs)
    | _ => none
  | _ => none
abbrev NP (G : Gx) (S : Hp) (y : NestedKey × Addr × Value) (q : D × D) : Prop := nk q.1 = some y.1 ∧ isTupD q.1 = true ∧ y.1.depth ≤ 8 ∧ Rep G.K S [] (.ref y.2.1) q.1 ∧ ∃ v, RelV v y.2.2 ∧ Rep G.K S [] v q.2
theorem isTup_of {d : D} (h : isTupD d = true) : ∃ l, d = .tup l := by
  cases d <;> first | exact ⟨_, rfl⟩ | cases h
/-- the dict at a, as the kit's rules ask it -/
theorem dok_keyed {a : Addr} {kvs : List (D × D)} (I : Inv X pins σ H s) (sub : ∀ a o, S a = some o → H a = some o) (h : DOk (gx X) S H a kvs) (ht : allTup kvs = true) :
    ∃ ys : List (NestedKey × Addr × Value), s.heap.DictOfH (nestedKind X.prog X.w) a ys ∧ (a == sysModules) = false ∧ ys.length ≤ sizeLine ∧ Paired (NP (gx X) S) ys kvs := by
  rcases h with ⟨kk, e, pr⟩ | ⟨xs, e, pr, hne⟩
  · have hnil : kk = [] ∧ kvs = [] := by
      cases pr with
      | nil => exact ⟨rfl, rfl⟩
      | @cons p q _ _ h1 h2 =>
        exfalso
        have h3 := (List.all_eq_true.mp ht) _ List.mem_cons_self
        obtain ⟨l, hl⟩ := isTup_of h3
        have h4 := h1.1
        rw [hl] at h4
        cases hp : p.1 <;> rw [hp] at h4 <;> cases h4
    obtain ⟨rfl, rfl⟩ := hnil
    obtain ⟨z, hd, vs, rel, dd⟩ := dk_of I.hok e
    have hvs : vs = [] := by cases rel; rfl
    subst hvs
    obtain ⟨o, es, ep, h1, h2, h3, _, h4, _⟩ := dd
    have hes : es.toList = [] := by
      cases hes : es.toList with
      | nil => rfl
      | cons x xs => rw [hes] at h4; cases h4
    exact ⟨[], ⟨o, es, ep, h1, h2, h3, hes, fun y hy => (by cases hy), List.nodup_nil⟩, hd, Nat.zero_le _, .nil⟩
  · obtain ⟨⟨z, hd, ys, rel, o, es, ep, h1, h2, h3, h4, h5⟩, _⟩ := (show ObjOk X.prog X.w H s.heap a (NDict X.prog X.w a xs) from I.hok a _ e)
    have pr2 : Paired (NP (gx X) S) ys kvs := by
      rename_i hmono
      clear hmono h4 h5 e z ht h1 h2 h3 hne
      induction rel generalizing kvs with
      | nil => cases pr; exact .nil
      | cons r1 r2 ih =>
        cases pr with
        | cons p1 p2 =>
          obtain ⟨e1, e2, e3⟩ := r1
          obtain ⟨q1, ⟨l, q2⟩, q3, q4, q5⟩ := p1
          exact .cons ⟨by rw [← e1]; exact q1, by rw [q2]; rfl, by rw [← e1]; exact q3, by rw [← e2]; exact q4, _, e3, q5⟩ (ih p2)
    refine ⟨ys, ⟨o, es, ep, h1, h2, h3, h4, fun y hy => ?_, h5⟩, hd, by rw [← Paired.length rel]; exact z, pr2⟩
    have : ∀ {ys : List (NestedKey × Addr × Value)} {kvs : List (D × D)}, Paired (NP (gx X) S) ys kvs → y ∈ ys → (nestedKind X.prog X.w).is s.heap y.1 y.2.1 := by
      intro ys kvs pr hy
      induction pr with
      | nil => cases hy
      | cons p1 p2 ih =>
        rcases List.mem_cons.mp hy with rfl | hy
        · obtain ⟨q1, q2, q3, q4, v, q5, q6⟩ := p1
          exact ⟨Rep.nested I sub q4 rfl q1, q3⟩
        · exact ih hy
    exact this pr2 hy
theorem find_at {G : Gx} {k : NestedKey} : ∀ {ys : List (NestedKey × Addr × Value)} {kvs : List (D × D)}, Paired (NP G S) ys kvs → (atKey ys k).isSome = (findD k kvs).isSome ∧ ∀ d, findD k kvs = some d → ∃ a u v, atKey ys k = some (a, u) ∧ RelV v u ∧ Rep G.K S [] v d
  | [], _, .nil => ⟨rfl, fun d h => by cases h⟩
  | y :: ys, q :: kvs, .cons p1 p2 => by
    obtain ⟨q1, q2, q3, q4, v, q5, q6⟩ := p1
    by_cases h : y.1 = k
    · have h1 : nk q.1 = some k := by rw [q1, h]
      have h2 : atKey (y :: ys) k = some y.2 := by simp [atKey, h]
      rw [findD, if_pos h1, h2]
      exact ⟨rfl, fun d e => by cases e; exact ⟨y.2.1, y.2.2, v, rfl, q5, q6⟩⟩
    · have h1 : ¬ nk q.1 = some k := by rw [q1]; intro z; cases z; exact h rfl
      have h2 : atKey (y :: ys) k = atKey ys k := by simp [atKey, h]
      rw [findD, if_neg h1, h2]
      exact find_at p2
theorem keyD_some {d : D} {k : NestedKey} (h : keyD d = some k) : isTupD d = true ∧ nk d = some k ∧ k.depth ≤ 8 := by
  unfold keyD at h
  split at h
  · rename_i h1
    obtain ⟨k', h2, h⟩ := bind_some h
    split at h
    · rename_i h3
      cases h
      exact ⟨h1, h2, of_decide_eq_true h3⟩
    · cases h
  · cases h
end
/-- x is a key, y a dict, and f of what stands there -/
def rDk (G : Gx) (f : Option D → Hp → VK → Prop) : R2 := fun x y H Q => ∃ (S : Hp) (d : D) (kvs : List (D × D)) (k : NestedKey) (a : Addr), (∀ a o, S a = some o → H a = some o) ∧ Rep G.K S [] x d ∧ keyD d = some k ∧ y = .ref a ∧ DOk G S H a kvs ∧ allTup kvs = true ∧ f (findD k kvs) H Q
def gDin (M : List MO) (d e : D) : Option D := (dctL M e).bind fun r => if (nl d && allTup r.2) = true then (keyD d).map fun k => .bl (findD k r.2).isSome else none
def gDnin (M : List MO) (d e : D) : Option D := (dctL M e).bind fun r => if (nl d && allTup r.2) = true then (keyD d).map fun k => .bl (!(findD k r.2).isSome) else none
def gDget (M : List MO) (e d : D) : Option D := (dctL M e).bind fun r => if (nl d && allTup r.2) = true then (keyD d).bind fun k => findD k r.2 else none
theorem dctL_ok {G : Gx} {p : Ps} {M : List MO} {x : V} {d : D} {j : Nat} {kvs : List (D × D)} (ok : Ok G p M) (r : Rep G.K p.S p.m x d) (h : dctL M d = some (j, kvs)) : ∃ a, x = .ref a ∧ p.m[j]? = some a ∧ DOk G p.S p.H a kvs := by
  cases r with
  | @loc a k hk =>
    rw [dctL] at h
    split at h
    · rename_i kvs' e
      cases h
      exact ⟨a, rfl, hk, ok.at_ _ a _ hk e⟩
    · cases h
  | _ => cases h
theorem rb_din {G : Gx} : RB G (rDk G fun o H Q => Q (.bl o.isSome) H) gDin := by
  intro p M x y d e z ok rx ry h Q k
  obtain ⟨⟨j, kvs⟩, h1, h⟩ := bind_some h
  split at h
  · rename_i h2
    rw [Bool.and_eq_true] at h2
    obtain ⟨kk, h3, h⟩ := map_some h
    subst h
    obtain ⟨a, rfl, _, h4⟩ := dctL_ok ok ry h1
    exact ⟨p.S, d, kvs, kk, a, ok.sub, rx.of_nl h2.1, h3, rfl, h4, h2.2, k p _ (.refl p) rfl ok (.bl _)⟩
  · cases h
theorem rb_dnin {G : Gx} : RB G (rDk G fun o H Q => Q (.bl (!o.isSome)) H) gDnin := by
  intro p M x y d e z ok rx ry h Q k
  obtain ⟨⟨j, kvs⟩, h1, h⟩ := bind_some h
  split at h
  · rename_i h2
    rw [Bool.and_eq_true] at h2
    obtain ⟨kk, h3, h⟩ := map_some h
    subst h
    obtain ⟨a, rfl, _, h4⟩ := dctL_ok ok ry h1
    exact ⟨p.S, d, kvs, kk, a, ok.sub, rx.of_nl h2.1, h3, rfl, h4, h2.2, k p _ (.refl p) rfl ok (.bl _)⟩
  · cases h
theorem key_is {X : Cx} {pins : List (Addr × Obj)} {σ : St} {H S : Hp} {s : Shared} {x : V} {v : Value} {d : D} {k : NestedKey} (I : Inv X pins σ H s) (sub : ∀ a o, S a = some o → H a = some o) (r : Rep X.K S [] x d) (rv : RelV x v) (h : keyD d = some k) :
    ∃ t, v = .ref t ∧ (nestedKind X.prog X.w).is s.heap k t := by
  obtain ⟨h1, h2, h3⟩ := keyD_some h
  have hn := Rep.nested I sub r rv h2
  obtain ⟨l, rfl⟩ := isTup_of h1
  cases r with
  | @tup a xs ds hS hr =>
    obtain rfl := (show _ = _ from rv)
    exact ⟨a, rfl, hn, h3⟩
theorem op_din {X : Cx} (hu : X.A.units + 66 < cLine) : OpR X (compareOp .In) (rDk (gx X) fun o H Q => Q (.bl o.isSome) H) := by
  intro pins s σ H x y v u Q I rx ry h
  obtain ⟨S, d, kvs, k, a, sub, r, hk, rfl, hd, ht, q⟩ := h
  obtain rfl := (show _ = _ from ry)
  obtain ⟨t, rfl, hkey⟩ := key_is I sub r rx hk
  obtain ⟨ys, hm, hs, hz, pr⟩ := dok_keyed I sub hd ht
  refine wpAny_in_heap (knd := nestedKind X.prog X.w) (by show X.A.units + 1 + 8 < cLine; omega) hkey hs hm ?_
  rw [(find_at (k := k) pr).1]
  exact ⟨.bl (findD k kvs).isSome, H, I.tok _, rfl, q⟩
theorem op_dnin {X : Cx} (hu : X.A.units + 66 < cLine) : OpR X (compareOp .NotIn) (rDk (gx X) fun o H Q => Q (.bl (!o.isSome)) H) := by
  intro pins s σ H x y v u Q I rx ry h
  obtain ⟨S, d, kvs, k, a, sub, r, hk, rfl, hd, ht, q⟩ := h
  obtain rfl := (show _ = _ from ry)
  obtain ⟨t, rfl, hkey⟩ := key_is I sub r rx hk
  obtain ⟨ys, hm, hs, hz, pr⟩ := dok_keyed I sub hd ht
  refine notIn_keyed (knd := nestedKind X.prog X.w) (by show X.A.units + 1 + 8 < cLine; omega) hkey hs ⟨ys, hm, rfl⟩ ?_
  rw [valueAt_pairsH, Option.isSome_map, (find_at (k := k) pr).1]
  exact ⟨.bl (!(findD k kvs).isSome), H, I.tok _, rfl, q⟩
section
variable {X : Cx} {a b : Expr} {fa fb : FE} {pos : Pos}
theorem se_din (hu : X.A.units + 66 < cLine) (ha : SE X a fa) (hb : SE X b fb) (hm : behindInMarks .In b = false := by with_unfolding_all rfl) : SE X (.Compare a [.In] [b] pos) (eBin gDin fa fb) := se_cmp (op_din hu) rb_din ha hb hm
theorem se_dnin (hu : X.A.units + 66 < cLine) (ha : SE X a fa) (hb : SE X b fb) (hm : behindInMarks .NotIn b = false := by with_unfolding_all rfl) : SE X (.Compare a [.NotIn] [b] pos) (eBin gDnin fa fb) := se_cmp (op_dnin hu) rb_dnin ha hb hm
theorem st_din (hu : X.A.units + 66 < cLine) (ha : SE X a fa) (hb : SE X b fb) (hm : behindInMarks .In b = false := by with_unfolding_all rfl) : ST X (.Compare a [.In] [b] pos) (tE (eBin gDin fa fb)) := st_cmp (op_din hu) rb_din ha hb hm
theorem st_dnin (hu : X.A.units + 66 < cLine) (ha : SE X a fa) (hb : SE X b fb) (hm : behindInMarks .NotIn b = false := by with_unfolding_all rfl) : ST X (.Compare a [.NotIn] [b] pos) (tE (eBin gDnin fa fb)) := st_cmp (op_dnin hu) rb_dnin ha hb hm
end
/-- d[y] -/
def tDgN (X : Cx) (td ty : TE) : TE := fun σ H Q => td σ H fun x H1 => ty σ H1 fun y H2 => ∃ (S : Hp) (d : D) (kvs : List (D × D)) (k : NestedKey) (a : Addr) (e : D), (∀ a o, S a = some o → H2 a = some o) ∧ Rep X.K S [] y d ∧ keyD d = some k ∧ x = .ref a ∧ DOk (gx X) S H2 a kvs ∧ allTup kvs = true ∧ findD k kvs = some e ∧ ∀ v, Rep X.K S [] v e → Q v H2
def rSetN (X : Cx) : V → V → V → Hp → (Hp → Prop) → Prop := fun x y v H Q => ∃ (S : Hp) (d e : D) (kvs : List (D × D)) (k : NestedKey) (a : Addr), (∀ a o, S a = some o → H a = some o) ∧ Rep X.K S [] y d ∧ keyD d = some k ∧ x = .ref a ∧ DOk (gx X) S H a kvs ∧ allTup kvs = true ∧ Rep X.K S [] v e ∧ kvs.length < sizeLine ∧
  ∀ o, DOk (gx X) S (upd H a o) a (storeD k d e kvs) → Q (upd H a o)
section
variable {X : Cx} {o i : Expr} {fo fi : FE} {pos : Pos} {td ty : TE}
theorem pe_dgN (hu : X.A.units + 66 < cLine) (ho : PE X o td) (hi : PE X i ty) (hs : NoSl i) : PE X (.Subscript o i pos) (tDgN X td ty) := by
  refine ⟨fun pins s σ H Q I h => ?_⟩
  refine subD_of PySem.F.slot_dict_getitem.lookup hs (thn (ho.run pins s σ H _ I h) fun u s1 ⟨x, H1, I1, rx, q1⟩ => thn (hi.run pins s1 σ H1 _ I1 q1) fun iv s2 ⟨y, H2, I2, ry, S, d, kvs, k, a, e, sub, r, hk, ex, hd, ht, h1, q2⟩ => ?_)
  subst ex
  obtain rfl : u = Value.ref a := rx
  obtain ⟨t, rfl, hkey⟩ := key_is I2 sub r ry hk
  obtain ⟨ys, hm, hs, hz, pr⟩ := dok_keyed I2 sub hd ht
  obtain ⟨b, u', v, h2, h3, h4⟩ := (find_at (k := k) pr).2 e h1
  refine ⟨hm.typeIs, getItem_keyed (knd := nestedKind X.prog X.w) (by show X.A.units + 1 + 8 < cLine; omega) hkey ⟨ys, hm, rfl⟩ (by rw [valueAt_pairsH, h2]; rfl) ?_⟩
  exact ⟨v, H2, I2.tok _, h3, q2 v h4⟩
theorem se_dget (hu : X.A.units + 66 < cLine) (ho : SE X o fo) (hi : SE X i fi) (hs : NoSl i := by exact fun _ _ => rfl) : SE X (.Subscript o i pos) (eBin gDget fo fi) := by
  obtain ⟨t, pt, vt⟩ := ho.ex
  obtain ⟨u, pu, vu⟩ := hi.ex
  refine ⟨_, pe_dgN hu pt pu hs, fun p env M σ d M' ok er h Q kk => ?_⟩
  obtain ⟨⟨d1, M1⟩, e1, h⟩ := bind_some h
  obtain ⟨⟨d2, M2⟩, e2, h⟩ := bind_some h
  obtain ⟨z, h3, h⟩ := map_some h
  cases h
  refine vt p env M σ d1 M1 ok er e1 _ fun q x l1 m1 ok1 rx => ?_
  refine vu q env M1 σ d2 M2 ok1 (er.mono l1) e2 _ fun q2 y l2 m2 ok2 ry => ?_
  obtain ⟨⟨j, kvs⟩, h4, h3⟩ := bind_some h3
  split at h3
  · rename_i h5
    rw [Bool.and_eq_true] at h5
    obtain ⟨k, h6, h7⟩ := bind_some h3
    obtain ⟨a, rfl, _, h8⟩ := dctL_ok ok2 (l2.rep rx) h4
    refine ⟨q2.S, d2, kvs, k, a, _, ok2.sub, ry.of_nl h5.1, h6, rfl, h8, h5.2, h7, fun v rv => kk q2 v (l1.trans l2) (m2.trans m1) ok2 ?_⟩
    have hn := (rv.mono (m' := q2.m) (fun _ _ z => z) fun _ _ z => by simp at z)
    exact hn
  · cases h3
theorem np_xs {G : Gx} {S : Hp} : ∀ {ys : List (NestedKey × Addr × Value)} {kvs : List (D × D)}, Paired (NP G S) ys kvs → ∃ xs : List (NestedKey × Addr × V), Paired (fun (x : NestedKey × Addr × V) (y : NestedKey × Addr × Value) => x.1 = y.1 ∧ x.2.1 = y.2.1 ∧ RelV x.2.2 y.2.2) xs ys ∧
    Paired (fun (x : NestedKey × Addr × V) (q : D × D) => nk q.1 = some x.1 ∧ (∃ l, q.1 = .tup l) ∧ x.1.depth ≤ 8 ∧ Rep G.K S [] (.ref x.2.1) q.1 ∧ Rep G.K S [] x.2.2 q.2) xs kvs
  | [], _, .nil => ⟨[], .nil, .nil⟩
  | y :: ys, q :: kvs, .cons p1 p2 => by
    obtain ⟨xs, h1, h2⟩ := np_xs p2
    obtain ⟨q1, q2, q3, q4, v, q5, q6⟩ := p1
    exact ⟨(y.1, y.2.1, v) :: xs, .cons ⟨rfl, rfl, q5⟩ h1, .cons ⟨q1, isTup_of q2, q3, q4, q6⟩ h2⟩
theorem np_map {G : Gx} {S : Hp} {k : NestedKey} {e : D} {v : V} {u : Value} (rv : RelV v u) (re : Rep G.K S [] v e) : ∀ {ys : List (NestedKey × Addr × Value)} {kvs : List (D × D)}, Paired (NP G S) ys kvs → Paired (NP G S) (ys.map (putAt k u)) (kvs.map fun q => if nk q.1 = some k then (q.1, e) else q)
  | [], _, .nil => .nil
  | y :: ys, q :: kvs, .cons p1 p2 => by
    have ih := np_map (k := k) rv re p2
    obtain ⟨q1, q2, q3, q4, v', q5, q6⟩ := p1
    rw [List.map_cons, List.map_cons]
    refine .cons ?_ ih
    unfold putAt
    by_cases h : y.1 = k
    · rw [if_pos h, if_pos (by rw [q1, h])]
      exact ⟨q1, q2, q3, q4, v, rv, re⟩
    · rw [if_neg h, if_neg (by rw [q1]; intro z; cases z; exact h rfl)]
      exact ⟨q1, q2, q3, q4, v', q5, q6⟩
theorem np_snoc {G : Gx} {S : Hp} {y : NestedKey × Addr × Value} {q : D × D} : ∀ {ys : List (NestedKey × Addr × Value)} {kvs : List (D × D)}, Paired (NP G S) ys kvs → NP G S y q → Paired (NP G S) (ys ++ [y]) (kvs ++ [q])
  | [], _, .nil, h => .cons h .nil
  | _ :: _, _ :: _, .cons p1 p2, h => .cons p1 (np_snoc p2 h)
theorem set_dct (hu : X.A.units + 66 < cLine) : PSet X (rSetN X) := by
  intro pins s σ H o i v ov iv u Q I ro ri rv h
  obtain ⟨S, d, e, kvs, k, a, sub, r, hk, rfl, hd, ht, re, hl, q⟩ := h
  obtain rfl := (show _ = _ from ro)
  obtain ⟨t, rfl, hkey⟩ := key_is I sub r ri hk
  obtain ⟨ys, hm, hs, hz, pr⟩ := dok_keyed I sub hd ht
  obtain ⟨k1, k2, k3⟩ := keyD_some hk
  have hlen : ys.length = kvs.length := Paired.length pr
  have rt : Rep X.K S [] (.ref t) d := by
    obtain ⟨l, rfl⟩ := isTup_of k1
    cases r with
    | @tup b xs ds h1 h2 =>
      obtain h3 := (show Value.ref t = Value.ref b from ri)
      cases h3
      exact .tup h1 h2
  refine wpAny_setItem_heap (knd := nestedKind X.prog X.w) (hsz := hz) (by show X.A.units + 1 + 8 < cLine; omega) hkey hm fun h' hm' hs' => ?_
  have pr' : Paired (NP (gx X) S) (storedH ys k t u) (storeD k d e kvs) := by
    unfold storedH storeD
    rw [(find_at (k := k) pr).1]
    split
    · exact np_map rv re pr
    · exact np_snoc pr ⟨k2, k1, k3, rt, v, rv, re⟩
  obtain ⟨xs, px, pq⟩ := np_xs pr'
  have hxl : xs.length ≤ sizeLine := by
    rw [Paired.length px]
    have : (storedH ys k t u).length ≤ ys.length + 1 := by
      unfold storedH
      split <;> simp
    omega
  obtain ⟨ob, es, ep, h1, h2, h3, h4, _, h5⟩ := hm'
  have hmut : Mut (H a) := by
    rcases hd with ⟨kk, e1, _⟩ | ⟨xx, e1, _⟩ <;> rw [e1] <;> exact True.intro
  refine ⟨upd H a (NDict X.prog X.w a xs), ?_, ?_⟩
  · refine d_write I hmut hs' ⟨ob, h1⟩ ⟨⟨hxl, hs, _, px, ob, es, ep, h1, h2, h3, h4, h5⟩, ⟨ob, h1⟩, fun g1 g2 f1 f2 => ?_⟩
    obtain ⟨z1, z2, yy, z3, ob', es', ep', z4, z5⟩ := f1
    exact ⟨z1, z2, yy, z3, ob', es', ep', f2 _ z4, z5⟩
  · refine q _ (.inr ⟨xs, upd_same, pq, fun hx => ?_⟩)
    have hl2 := Paired.length px
    rw [hx] at hl2
    have : 1 ≤ (storedH ys k t u).length := by
      unfold storedH
      split
      · rename_i hs2
        rw [List.length_map]
        cases ys with
        | nil => simp [atKey] at hs2
        | cons => simp
      · simp
    rw [← hl2] at this
    simp at this
end
def fSetD (fv fo fi : FE) (env : En) (M : List MO) : Option Out := (fv env M).bind fun r => (fo env r.2).bind fun s => (fi env s.2).bind fun t => (dctL t.2 s.1).bind fun q => if (nl t.1 && nl r.1 && allTup q.2 && lim q.2.length) = true then (keyD t.1).map fun k => .nx env (t.2.set q.1 (.dct (storeD k t.1 r.1 q.2))) else none
section
variable {X : Cx} {W : Nat → Hp → Prop} {e o i : Expr} {pos tpos : Pos} {fv fo fi : FE}
theorem ss_setD (hu : X.A.units + 66 < cLine) (hv : SE X e fv) (ho : SE X o fo) (hi : SE X i fi)
    (ha : ∀ v, assign (.Subscript o i tpos) X.env v = (do
      let ov ← holding [v] (eval o X.env)
      let iv ← holding [v, ov] (eval i X.env)
      standAt tpos
      holding [v, ov, iv] (setItem ov iv v)
      release [v, ov, iv] []) := by intro _; rfl)
    (hs : swapsWithSole [.Subscript o i tpos] e pos.line X.env = pure false := by rfl) (hw : swappedStores [.Subscript o i tpos] e X.env = pure none := by rfl) (h1 : (assignEach [.Subscript o i tpos] X.env).map (·.2) = [assign (.Subscript o i tpos) X.env] := by rfl) :
    SS X W (.Assign [.Subscript o i tpos] e pos) (fSetD fv fo fi) := by
  obtain ⟨tv, pv, vv⟩ := hv.ex
  obtain ⟨t, pt, vt⟩ := ho.ex
  obtain ⟨u, pu, vu⟩ := hi.ex
  refine ⟨_, ps_asg pv (pg_sub pt pu (set_dct hu) ha) hs hw h1, fun p env M σ oc ok er h D k => ?_⟩
  obtain ⟨⟨d1, M1⟩, e1, h⟩ := bind_some h
  obtain ⟨⟨d2, M2⟩, e2, h⟩ := bind_some h
  obtain ⟨⟨d3, M3⟩, e3, h⟩ := bind_some h
  obtain ⟨⟨j, kvs⟩, e4, h⟩ := bind_some h
  split at h
  · rename_i h5
    simp only [Bool.and_eq_true] at h5
    obtain ⟨⟨⟨g1, g2⟩, g3⟩, g4⟩ := h5
    obtain ⟨key, e5, h⟩ := map_some h
    subst h
    refine vv p env M σ d1 M1 ok er e1 _ fun q x l1 m1 ok1 rx => ?_
    refine vt q env M1 σ d2 M2 ok1 (er.mono l1) e2 _ fun q2 y l2 m2 ok2 ry => ?_
    refine vu q2 env M2 σ _ M3 ok2 (er.mono (l1.trans l2)) e3 _ fun q3 z l3 m3 ok3 rz => ?_
    obtain ⟨a, rfl, h3, h4⟩ := dctL_ok ok3 (l3.rep ry) e4
    have l13 := (l1.trans l2).trans l3
    refine ⟨q3.S, d3, d1, kvs, key, a, ok3.sub, rz.of_nl g1, e5, rfl, h4, g3, ((l2.trans l3).rep rx).of_nl g2, lim_lt g4, fun ob hob => ?_⟩
    have l4 : Le q3 (q3.put a ob) := Le.put (List.mem_of_getElem? h3)
    exact k (q3.put a ob) σ (l13.trans l4) (ok3.put h3 hob) (er.mono (l13.trans l4))
  · cases h
end
end BX

set_option Elab.async false
set_option linter.all false
set_option maxRecDepth 100000
set_option maxHeartbeats 2000000
/-! BX19: calls whose arguments hold new dicts and lists. -/
namespace BX
open PySem L2
def eCallM (F : Fn) (js : List Bool) (fm : FM) (env : En) (M : List MO) : Option (D × List MO) := (fm env M).bind fun r => (prep js (alcM r.1 r.2).1 0).bind fun pr => if distinct pr.2 = true then
    (getAll (alcM r.1 r.2).2 pr.2).bind fun M0 => (F pr.1 M0).bind fun o => match o with
      | .rt d M' => (rsv (lkF pr.2.length 4 M') d).bind fun d' => if nl d' = true then (putAll (alcM r.1 r.2).2 pr.2 M').map fun M2 => (d', M2.take r.2.length) else none
      | _ => none
  else none
def nCallM (F : Fn) (js : List Bool) (fm : FM) (env : En) (M : List MO) : Option (List D × List MO) := (fm env M).bind fun r => (prep js (alcM r.1 r.2).1 0).bind fun pr => if distinct pr.2 = true then
    (getAll (alcM r.1 r.2).2 pr.2).bind fun M0 => (F pr.1 M0).bind fun o => match o with
      | .rt (.loc k) M' => if k < pr.2.length then none else match M'[k]? with
        | some (.lst ds) => if nls ds = true then (putAll (alcM r.1 r.2).2 pr.2 M').map fun M2 => (ds, M2.take r.2.length) else none
        | _ => none
      | _ => none
  else none
theorem alcM_pre : ∀ (ms : List Mx) (M : List MO), ∃ t, (alcM ms M).2 = M ++ t
  | [], M => ⟨[], by rw [alcM, List.append_nil]⟩
  | .d x :: ms, M => by obtain ⟨t, h⟩ := alcM_pre ms M; exact ⟨t, h⟩
  | .n xs :: ms, M => by obtain ⟨t, h⟩ := alcM_pre ms (M ++ [.lst xs]); exact ⟨.lst xs :: t, by rw [alcM]; show (alcM ms _).2 = _; rw [h]; simp⟩
  | .ed :: ms, M => by obtain ⟨t, h⟩ := alcM_pre ms (M ++ [.dct []]); exact ⟨.dct [] :: t, by rw [alcM]; show (alcM ms _).2 = _; rw [h]; simp⟩
theorem alcM_len {ms : List Mx} {M : List MO} : (alcM ms M).1.length = ms.length := by
  induction ms generalizing M with
  | nil => rfl
  | cons m ms ih => cases m <;> simp [alcM, ih]
section
variable {G : Gx} {q r : Ps} {M M' : List MO}
/-- the new objects forgotten -/
theorem drop_ok {bs : List Addr} {S' H' : Hp} {N : List MO} (ok : Ok G q M) (okN : Ok G ⟨q.m ++ bs, S', H'⟩ N) (hl : q.m.length ≤ N.length) (hS : ∀ a o, q.S a = some o → S' a = some o)
    (hN : ∀ (k : Nat) o, k < q.m.length → N[k]? = some o → moNl o = true ∨ (M[k]? = some o ∧ ∀ a, q.m[k]? = some a → ∀ u, q.H a = some u → H' a = some u)) : Ok G ⟨q.m, S', H'⟩ (N.take q.m.length) := by
  refine ⟨okN.sub, ok.nd, fun a h => okN.apart a (List.mem_append_left _ h), ?_, fun k a o e1 e2 => ?_⟩
  · show q.m.length = (N.take q.m.length).length
    rw [List.length_take]
    omega
  · have e1' : q.m[k]? = some a := e1
    have hk : k < q.m.length := (List.getElem?_eq_some_iff.mp e1').1
    rw [List.getElem?_take_of_lt hk] at e2
    have em : (q.m ++ bs)[k]? = some a := by rw [List.getElem?_append_left hk]; exact e1'
    have h0 := okN.at_ k a o em e2
    rcases hN k o hk e2 with h | ⟨h1, h2⟩
    · exact MOR.of_moNl (p := ⟨q.m ++ bs, S', H'⟩) h (fun _ _ z => z) (fun _ z => z) h0
    · have h3 := ok.at_ k a o e1' h1
      cases o with
      | lst ds =>
        obtain ⟨xs, h4, h5⟩ := h3
        exact ⟨xs, h2 a e1' _ h4, h5.mono hS fun _ _ z => z⟩
      | dct kvs => exact h0
      | tbl x => exact h0
      | ins x fs =>
        obtain ⟨C, dx, vs, h4, h5, h6⟩ := h3
        exact ⟨C, dx, vs, h2 a e1' _ h4, h5, Paired.mapP h6 fun u v z => ⟨z.1, z.2.mono hS fun _ _ z => z⟩⟩
theorem Le.drop {p : Ps} {bs : List Addr} {S' H' : Hp} (l0 : Le p q) (l : Le p ⟨q.m ++ bs, S', H'⟩) : Le p ⟨q.m, S', H'⟩ :=
  ⟨l0.m, l.sh, l.nw, l.fr, l.dm, fun a h => l.nm a (List.mem_append_left _ h)⟩
end
/-- what a call with new objects needs: the state with them, and how they are forgotten -/
theorem drop_call {G : Gx} {p q w : Ps} {M1 M' M0 N : List MO} {ms : List Mx} {as bs : List Addr} {ks : List Nat} {S' : Hp} (l : Le p q) (m : q.z = p.z) (ok1 : Ok G q M1) (okq : Ok G ⟨q.m ++ bs, q.S, q.H⟩ (alcM ms M1).2) (hb : ∀ a, a ∈ bs → p.H a = none)
    (a1 : as.length = ks.length) (a2 : ∀ (j k : Nat), ks[j]? = some k → (q.m ++ bs)[k]? = as[j]?) (hd : distinct ks = true) (e3 : getAll (alcM ms M1).2 ks = some M0) (l2 : Le ⟨as, q.S, q.H⟩ w) (ok2 : Ok G w M') (e6 : putAll (alcM ms M1).2 ks M' = some N)
    (s1 : ∀ a o, w.S a = some o → S' a = some o) (s2 : ∀ a o, S' a = some o → w.S a = some o ∨ (q.H a = none ∧ w.H a = some o)) : Le p ⟨q.m, S', w.H⟩ ∧ Ok G ⟨q.m, S', w.H⟩ (N.take M1.length) := by
  obtain ⟨l3, ok3⟩ := caller_ok (q := ⟨q.m ++ bs, q.S, q.H⟩) okq a1 a2 hd e3 l2 ok2 e6 s1 s2
  have lq : Le p ⟨q.m ++ bs, q.S, q.H⟩ := alcM_le (G := G) (M := M1) (q := q) l hb
  obtain ⟨p1, p2, p3⟩ := putAll_get e6 hd
  obtain ⟨t, ht⟩ := alcM_pre ms M1
  have hlen : q.m.length = M1.length := ok1.len
  have hl : q.m.length ≤ N.length := by rw [p1, ht, List.length_append]; omega
  refine ⟨Le.drop l (lq.trans l3), ?_⟩
  rw [← hlen]
  refine drop_ok ok1 ok3 hl (fun a o h => l3.sh a o h) fun k o hk ho => ?_
  by_cases hks : k ∈ ks
  · obtain ⟨j, hj, ej⟩ := List.getElem_of_mem hks
    obtain ⟨o', h3, h4, h5⟩ := p3 j k (by rw [← ej]; exact List.getElem?_eq_getElem hj) (by rw [ht, List.length_append]; omega)
    rw [h4] at ho
    cases ho
    exact .inl h5
  · right
    have ho2 := p2 k hks
    rw [ho, ht, List.getElem?_append_left (by omega)] at ho2
    refine ⟨ho2.symm, fun a ha u hu => ?_⟩
    refine l2.fr a u hu fun z => ?_
    have z' : a ∈ as := z
    obtain ⟨j, hj, ej⟩ := List.getElem_of_mem z'
    have hj2 : j < ks.length := by rw [← a1]; exact hj
    have h4 := a2 j ks[j] (List.getElem?_eq_getElem hj2)
    rw [List.getElem?_eq_getElem hj, ej] at h4
    have ha2 : (q.m ++ bs)[k]? = some a := by rw [List.getElem?_append_left hk]; exact ha
    obtain ⟨b1, b2⟩ := List.getElem?_eq_some_iff.mp h4
    obtain ⟨b3, b4⟩ := List.getElem?_eq_some_iff.mp ha2
    have ek : ks[j] = k := (List.getElem_inj okq.nd).mp (b2.trans b4.symm)
    exact hks (by rw [← ek]; exact List.getElem_mem hj2)
theorem ev_callM {G : Gx} {ta : TA} {E : XK} {fm : FM} {F : Fn} {js : List Bool} {np : Nat} {cls : Nat → Value} (h : EvM G ta fm) (hn : ∀ env M ms M', fm env M = some (ms, M') → ms.length = np) : Ev G (tCall (spF G cls np F) [] E ta) (eCallM F js fm) := by
  intro p env M σ d N ok er h1 Q kk
  obtain ⟨⟨ms, M1⟩, e1, h1⟩ := bind_some h1
  obtain ⟨⟨ds', ks⟩, e2, h1⟩ := bind_some h1
  split at h1
  · rename_i hd
    obtain ⟨M0, e3, h1⟩ := bind_some h1
    obtain ⟨o, e4, h1⟩ := bind_some h1
    split at h1
    · rename_i d1 M'
      obtain ⟨d2, e5, h1⟩ := bind_some h1
      split at h1
      · rename_i hnl
        obtain ⟨N', e6, h1⟩ := map_some h1
        cases h1
        refine h p env M σ ms M1 ok er e1 _ fun q xs l m ok1 rm => ?_
        obtain ⟨bs, okq, rq, hb⟩ := alcM_ok rm ok1
        obtain ⟨as, a1, a2, a3, a4⟩ := prep_ok (q := ⟨q.m ++ bs, q.S, q.H⟩) [] rfl e2 rq
        simp only [List.nil_append] at a3
        refine ⟨⟨as, q.S, q.H⟩, M0, ds', .rt d1 M', ?_, rfl, callee_ok (q := ⟨q.m ++ bs, q.S, q.H⟩) okq a1 a2 hd e3, ?_, e4, fun w y l2 ok2 ry => ?_⟩
        · rw [List.append_nil, rq.length, alcM_len]
          exact hn _ _ _ _ e1
        · rw [List.append_nil]
          exact a3
        · let S' : Hp := fun a => match w.S a with
            | some o => some o
            | none => if a ∈ w.m.drop ks.length then w.H a else none
          have s1 : ∀ a o, w.S a = some o → S' a = some o := fun a o z => by show (match w.S a with | some o => some o | none => _) = some o; rw [z]
          have hnew : ∀ a, a ∈ w.m.drop ks.length → q.H a = none := fun a ha => by
            rcases l2.nm a (List.mem_of_mem_drop ha) with z | z
            · obtain ⟨t, ht⟩ := l2.m
              have ht' : w.m = as ++ t := ht
              rw [ht', ← a1, List.drop_left] at ha
              have nd := ok2.nd
              rw [ht', List.nodup_append] at nd
              exact absurd rfl (nd.2.2 a z a ha)
            · exact z
          have s2 : ∀ a o, S' a = some o → w.S a = some o ∨ (q.H a = none ∧ w.H a = some o) := fun a o z => by
            have z' : (match w.S a with | some o => some o | none => if a ∈ w.m.drop ks.length then w.H a else none) = some o := z
            split at z'
            · rename_i o' h'
              exact .inl (by rw [h']; exact z')
            · split at z'
              · rename_i hm
                exact .inr ⟨hnew a hm, z'⟩
              · cases z'
          obtain ⟨l3, ok3⟩ := drop_call l m ok1 okq hb a1 a2 hd e3 l2 ok2 e6 s1 s2
          refine kk ⟨q.m, S', w.H⟩ y l3 m ok3 (Rep.of_nl (m := q.m) (rsv_ok s1 (lkF_ok ok2 s1 (fun j a o hj h3 h4 => ?_) 4) ry e5) hnl)
          have hj' : ks.length ≤ j := hj
          have ha : a ∈ w.m.drop ks.length := by
            obtain ⟨b1, b2⟩ := List.getElem?_eq_some_iff.mp h3
            rw [← b2]
            refine List.mem_of_getElem? (i := j - ks.length) ?_
            rw [List.getElem?_drop, show ks.length + (j - ks.length) = j by omega]
            exact List.getElem?_eq_getElem b1
          have hS : w.S a = none := ok2.apart a (List.mem_of_mem_drop ha)
          show (match w.S a with | some o => some o | none => if a ∈ w.m.drop ks.length then w.H a else none) = some o
          rw [hS]
          simp only [if_pos ha]
          exact h4
      · cases h1
    · cases h1
  · cases h1
theorem evn_callM {G : Gx} {ta : TA} {E : XK} {fm : FM} {F : Fn} {js : List Bool} {np : Nat} {cls : Nat → Value} (h : EvM G ta fm) (hn : ∀ env M ms M', fm env M = some (ms, M') → ms.length = np) : EvN G (tCall (spF G cls np F) [] E ta) (nCallM F js fm) := by
  intro p env M σ d N ok er h1 Q kk
  obtain ⟨⟨ms, M1⟩, e1, h1⟩ := bind_some h1
  obtain ⟨⟨ds', ks⟩, e2, h1⟩ := bind_some h1
  split at h1
  · rename_i hd
    obtain ⟨M0, e3, h1⟩ := bind_some h1
    obtain ⟨o, e4, h1⟩ := bind_some h1
    split at h1
    · rename_i k1 M'
      split at h1
      · cases h1
      · rename_i hk1
        split at h1
        · rename_i ds2 hm2
          split at h1
          · rename_i hnl
            obtain ⟨N', e6, h1⟩ := map_some h1
            cases h1
            refine h p env M σ ms M1 ok er e1 _ fun q xs l m ok1 rm => ?_
            obtain ⟨bs, okq, rq, hb⟩ := alcM_ok rm ok1
            obtain ⟨as, a1, a2, a3, a4⟩ := prep_ok (q := ⟨q.m ++ bs, q.S, q.H⟩) [] rfl e2 rq
            simp only [List.nil_append] at a3
            refine ⟨⟨as, q.S, q.H⟩, M0, ds', .rt (.loc k1) M', ?_, rfl, callee_ok (q := ⟨q.m ++ bs, q.S, q.H⟩) okq a1 a2 hd e3, ?_, e4, fun w y l2 ok2 ry => ?_⟩
            · rw [List.append_nil, rq.length, alcM_len]
              exact hn _ _ _ _ e1
            · rw [List.append_nil]
              exact a3
            · obtain ⟨l3, ok3⟩ := drop_call (S' := w.S) l m ok1 okq hb a1 a2 hd e3 l2 ok2 e6 (fun _ _ z => z) fun a o z => .inl z
              cases ry with
              | @loc a _ hk =>
                obtain ⟨ys, h2, h3⟩ := ok2.lst hk hm2
                have ha : q.H a = none := by
                  rcases l2.nm a (List.mem_of_getElem? hk) with z | z
                  · obtain ⟨t, ht⟩ := l2.m
                    have ht' : w.m = as ++ t := ht
                    obtain ⟨j, hj, ej⟩ := List.getElem_of_mem z
                    have hw : w.m[j]? = some a := by rw [ht', List.getElem?_append_left hj, ← ej]; exact List.getElem?_eq_getElem hj
                    obtain ⟨b1, b2⟩ := List.getElem?_eq_some_iff.mp hw
                    obtain ⟨b3, b4⟩ := List.getElem?_eq_some_iff.mp hk
                    have := (List.getElem_inj ok2.nd).mp (b2.trans b4.symm)
                    have hj2 : j < as.length := hj
                    have hk2 : ¬ k1 < ks.length := hk1
                    omega
                  · exact z
                exact kk ⟨q.m, w.S, w.H⟩ a ys l3 (ok1.not_m ha) (l.fresh ha) (ok2.apart a (List.mem_of_getElem? hk)) ok3 h2 (h3.of_nl hnl)
          · cases h1
        · cases h1
    · cases h1
  · cases h1
structure SMn (X : Cx) (es : List Expr) (f : FM) (n : Nat) : Prop where
  a : SM X es f
  n : ∀ env M ms M', f env M = some (ms, M') → ms.length = n
section
variable {X : Cx} {e : Expr} {es : List Expr} {fe : FE} {fn : FA} {fm : FM} {pos q : Pos} {n k : Nat} {x : Str} {ps : List Str} {cls : Nat → Value} {F : Fn}
theorem smn_nil : SMn X [] mNil 0 := ⟨sm_nil, fun env M ds M' h => by cases h; rfl⟩
theorem smn_E (h : SE X e fe) (r : SMn X es fm n) (hs : starEach (e :: es) X.env = (false, eval e X.env) :: starEach es X.env := by rfl) : SMn X (e :: es) (mE fe fm) (n + 1) := by
  refine ⟨sm_E h r.a hs, fun env M ds M' h => ?_⟩
  obtain ⟨⟨d1, M1⟩, e1, h⟩ := bind_some h
  obtain ⟨⟨d2, M2⟩, e2, h⟩ := map_some h
  cases h
  rw [List.length_cons, r.n _ _ _ _ e2]
theorem smn_N (h : SN X e fn) (r : SMn X es fm n) (hs : starEach (e :: es) X.env = (false, eval e X.env) :: starEach es X.env := by rfl) : SMn X (e :: es) (mN fn fm) (n + 1) := by
  refine ⟨sm_N h r.a hs, fun env M ds M' h => ?_⟩
  obtain ⟨⟨d1, M1⟩, e1, h⟩ := bind_some h
  obtain ⟨⟨d2, M2⟩, e2, h⟩ := map_some h
  cases h
  rw [List.length_cons, r.n _ _ _ _ e2]
theorem smn_D (r : SMn X es fm n) (hs : starEach (.Dict [] [] pos :: es) X.env = (false, eval (.Dict [] [] pos) X.env) :: starEach es X.env := by rfl) : SMn X (.Dict [] [] pos :: es) (mD fm) (n + 1) := by
  refine ⟨sm_D r.a hs, fun env M ds M' h => ?_⟩
  obtain ⟨⟨d2, M2⟩, e2, h⟩ := map_some h
  cases h
  rw [List.length_cons, r.n _ _ _ _ e2]
theorem se_callM (c : Cal X.prog X.w X.K X.mg X.base k x ps (spF (gx X) cls n F)) (js : List Bool) (ha : SMn X (e :: es) fm n) (hr : Room k X.A) (hg : Gl X x) (hdb : (x == ("__debug__" : Str)) = false := by decide)
    (he : starEach (e :: es) X.env = (false, eval e X.env) :: starEach es X.env := by rfl) (hpl : (backTo pos (starEach es X.env)).any (·.1) = false := by rfl) : SE X (.Call (.Name x q) (e :: es) [] pos) (eCallM F js fm) := by
  obtain ⟨t, pt, vt⟩ := ha.a.ex
  obtain ⟨f, fd, F1, hm, hk, hb⟩ := c.ex
  exact ⟨_, pe_call F1 hr hg hm hk hb .nil pass0 pt hdb he hpl, ev_callM vt ha.n⟩
theorem sn_callM (c : Cal X.prog X.w X.K X.mg X.base k x ps (spF (gx X) cls n F)) (js : List Bool) (ha : SMn X (e :: es) fm n) (hr : Room k X.A) (hg : Gl X x) (hdb : (x == ("__debug__" : Str)) = false := by decide)
    (he : starEach (e :: es) X.env = (false, eval e X.env) :: starEach es X.env := by rfl) (hpl : (backTo pos (starEach es X.env)).any (·.1) = false := by rfl) : SN X (.Call (.Name x q) (e :: es) [] pos) (nCallM F js fm) := by
  obtain ⟨t, pt, vt⟩ := ha.a.ex
  obtain ⟨f, fd, F1, hm, hk, hb⟩ := c.ex
  exact ⟨_, pe_call F1 hr hg hm hk hb .nil pass0 pt hdb he hpl, evn_callM vt ha.n⟩
end
end BX

set_option Elab.async false
set_option linter.all false
set_option maxRecDepth 100000
set_option maxHeartbeats 2000000
/-! BX20: new dicts by name, list(range(n)), xs[::-1]. -/
namespace BX
open PySem L2
def fNewD (i : Nat) (env : En) (M : List MO) : Option Out := some (.nx (env.set i (some (.loc M.length))) (M ++ [.dct []]))
def nListR1 (a : FE) (env : En) (M : List MO) : Option (List D × List MO) := (a env M).bind fun r => match r.1 with
  | .int n => if smallI n = true then some (upFrom 0 n.toNat, r.2) else none
  | _ => none
def nRev (a : FE) (env : En) (M : List MO) : Option (List D × List MO) := (a env M).bind fun r => (asR r.2 r.1).map fun xs => (xs.reverse, r.2)
section
variable {X : Cx} {W : Nat → Hp → Prop} {e a : Expr} {pos q p1 p2 p3 p4 : Pos} {fa : FE}
theorem ss_setDict {i : Nat} {x : Str} {pos' : Pos} (hN : X.N.Nodup) (hi : X.N[i]? = some x := by rfl) (hx : Loc X.env.scope x := by first | exact .inl rfl | exact .inr rfl) (hs : swapsWith (.Dict [] [] q) (some (.Name x pos')) pos.line X.env = pure false := by rfl)
    (hf : X.fn x = true ∨ X.env.scope.names.lookup x = some .local := by first | exact .inl rfl | exact .inr rfl | assumption) : SS X W (.Assign [.Name x pos'] (.Dict [] [] q) pos) (fNewD i) := by
  refine ⟨_, ps_set hN hi hx pe_dnewK hs hf, fun p env M σ o ok er h D k => ?_⟩
  cases h
  intro b hn
  have hm : b ∉ p.m := ok.not_m hn
  have hs := ok.S_none hn
  have l : Le p (p.put b (.dK [])) := Le.pend hn
  have ok1 : Ok (gx X) (p.put b (.dK [])) M := ok.pend hs hm
  have ok2 : Ok (gx X) ⟨p.m ++ [b], p.S, upd p.H b (.dK [])⟩ (M ++ [.dct []]) := add_obj (q := p.put b (.dK [])) ok1 hm hs (.inl ⟨[], upd_same, .nil⟩)
  have l2 : Le p ⟨p.m ++ [b], p.S, upd p.H b (.dK [])⟩ := alcM_le (G := gx X) (M := M) (q := p.put b (.dK [])) l fun c hc => by
    rw [List.mem_singleton] at hc
    rw [hc]; exact hn
  refine k ⟨p.m ++ [b], p.S, upd p.H b (.dK [])⟩ _ l2 ok2 ((er.mono l2).set (.loc ?_))
  show (p.m ++ [b])[M.length]? = some b
  rw [← ok.len, List.getElem?_append_right (Nat.le_refl _)]
  simp
theorem rgV_up (n : Int) : ∀ {K : PySem.W.Frag} {S : Hp} {m : List Addr}, Reps K S m (rgV 0 n) (upFrom 0 n.toNat) := by
  intro K S m
  have key : ∀ (k : Nat) (lo : Int) (f : Nat → Int), (∀ i, f i = lo + (i : Nat)) → Reps K S m ((List.range k).map fun i => V.int (f i)) (upFrom lo k) := by
    intro k
    induction k with
    | zero => intro lo f _; exact .nil
    | succ k ih =>
      intro lo f hf
      rw [List.range_succ_eq_map, List.map_cons, List.map_map, upFrom]
      have h0 := hf 0
      refine .cons ?_ (ih (lo + 1) (fun i => f (i + 1)) fun i => by rw [hf]; omega)
      rw [h0]
      simp only [Int.natCast_zero, Int.add_zero]
      exact .int lo
  unfold rgV
  rw [Int.sub_zero]
  exact key n.toNat 0 (fun i => 0 + (i : Nat)) fun i => rfl
theorem sn_listR1 (hc : X.calm = true) (hm : X.mg "list" = none) (hm2 : X.mg "range" = none) (ha : SE X a fa) (hg : Gl X "list" := by rfl) (hg2 : Gl X "range" := by rfl) (na : starEach [a] X.env = (false, eval a X.env) :: starEach [] X.env := by rfl)
    (nb : starEach [.Call (.Name "range" p2) [a] [] p3] X.env = (false, eval (.Call (.Name "range" p2) [a] [] p3) X.env) :: starEach [] X.env := by rfl) : SN X (.Call (.Name "list" p1) [.Call (.Name "range" p2) [a] [] p3] [] pos) (nListR1 fa) := by
  obtain ⟨t, pt, vt⟩ := ha.ex
  refine ⟨_, pe_listRg hc hg hm (prg_1 hg2 hm2 pt na) nb, fun p env M σ ds M' ok er h Q k => ?_⟩
  obtain ⟨⟨d1, M1⟩, e1, h⟩ := bind_some h
  cases d1 with
  | int n =>
    simp only at h
    split at h
    · rename_i hn
      cases h
      have hn := smallI_use hn
      refine vt p env M σ _ _ ok er e1 _ fun q x l m ok1 x1 => ?_
      cases x1
      refine ⟨n, rfl, ⟨by omega, by omega, by omega, by omega, by omega⟩, fun b hb => ?_⟩
      obtain ⟨f1, f2, f0, f3, f4, f5⟩ := fresh_new (xs := rgV 0 n) l ok1 hb
      exact k (q.put b (.lst (rgV 0 n))) b _ f1 f0 f2 f3 f4 f5 (rgV_up n)
    · cases h
  | _ => cases h
theorem sn_rev {k : Nat} (ha : SE X a fa) : SN X (.Subscript a (.Slice none none (some (.UnaryOp .USub (.Constant (.int 1) k p1) p2)) p3) pos) (nRev fa) := by
  obtain ⟨t, pt, vt⟩ := ha.ex
  refine ⟨_, pe_revL pt, fun p env M σ ds M' ok er h Q kk => ?_⟩
  obtain ⟨⟨d1, M1⟩, e1, h⟩ := bind_some h
  obtain ⟨xs, e2, h⟩ := map_some h
  cases h
  refine vt p env M σ _ _ ok er e1 _ fun q x l m ok1 x1 => ?_
  obtain ⟨b, us, rfl, h3, h4⟩ := asR_ok ok1 x1 e2
  refine ⟨b, us, rfl, h3, fun c hc => ?_⟩
  obtain ⟨f1, f2, f0, f3, f4, f5⟩ := fresh_new (xs := us.reverse) l ok1 hc
  exact kk (q.put c (.lst us.reverse)) c _ f1 f0 f2 f3 f4 f5 h4.reverse
end
end BX

set_option Elab.async false
set_option linter.all false
set_option maxRecDepth 100000
set_option maxHeartbeats 2000000
/-! BX21: insert. -/
namespace BX
open PySem L2
section
variable {X : Cx} {o a b : Expr} {apos pos : Pos} {fo fa fb : FE}
theorem se_insert (ho : SE X o fo) (ha : SE X a fa) (hb2 : SE X b fb) (hb : attributeBase o "insert" X.env (eval o X.env) = eval o X.env := by rfl) (hl : (apos.endLine == pos.line) = true := by rfl)
    (hs : starEach [a, b] X.env = (false, eval a X.env) :: starEach [b] X.env := by rfl) (hs2 : starEach [b] X.env = (false, eval b X.env) :: starEach [] X.env := by rfl)
    (hf : (((backTo pos (starEach [a, b] X.env)).all fun x => !x.1) && ((backToKw pos (keywordEach [] X.env)).all fun x => x.1.isSome) && decide (([a, b].length + ([] : List Keyword).length + if ([] : List Keyword).isEmpty = true then 0 else 1) < 30)) = true := by rfl) (hp : (backTo pos (starEach [b] X.env)).any (·.1) = false := by rfl) :
    SE X (.Call (.Attribute o "insert" apos) [a, b] [] pos) (eMc gIns fo (aCons fa (aCons fb aNil))) :=
  se_bm PySem.F.slot_list_insert PySem.F.type_list_insert mt_insert rm_ins ho (sa_cons ha (sa_cons hb2 sa_nil hs2) hs) hb hf hl hs hp
end
end BX

set_option Elab.async false
set_option linter.all false
set_option maxRecDepth 100000
set_option maxHeartbeats 2000000
/-! BX22: tables of the module: dicts of texts and ints that are never changed. -/
namespace BX
open PySem L2
def findS (x : Str) : List (Str × Int) → Option Int
  | [] => none
  | p :: ps => if x = p.1 then some p.2 else findS x ps
def EntsAre : List DictEntry → List (Str × Int) → Prop
  | [], [] => True
  | e :: es, p :: ps => (∃ t, e.key = .str p.1 t) ∧ (∃ t, e.val = .int p.2 t) ∧ EntsAre es ps
  | _, _ => False
/-- at d stands the table kvs -/
def KTab (K : PySem.W.Frag) (w : World) (d : Addr) (kvs : List (Str × Int)) : Prop := ∃ es n, K.lookup d = some ⟨.type "dict", none, .dict es n, #[]⟩ ∧ PySem.W.KeysLit w.params es.toList ∧ (d == sysModules) = false ∧ EntsAre es.toList kvs
theorem ents_find : ∀ {es : List DictEntry} {kvs : List (Str × Int)} (x : Str), EntsAre es kvs → match findS x kvs with
    | some i => ∃ e t, es.find? (·.key.isStr x) = some e ∧ e.val = .int i t
    | none => es.find? (·.key.isStr x) = none
  | [], [], x, _ => rfl
  | e :: es, p :: ps, x, ⟨⟨t, h1⟩, ⟨u, h2⟩, h3⟩ => by
    have ih := ents_find x h3
    have q : e.key.isStr x = decide (x = p.1) := by
      rw [h1]
      show (_ == _) = _
      by_cases hx : x = p.1
      · simp [hx]
      · rw [decide_eq_false hx]
        exact beq_eq_false_iff_ne.mpr (fun z => hx z.symm)
    rw [findS]
    by_cases hx : x = p.1
    · rw [if_pos hx]
      exact ⟨e, u, by rw [List.find?_cons, q, decide_eq_true hx], h2⟩
    · rw [if_neg hx, List.find?_cons, q, decide_eq_false hx]
      exact ih
  | [], _ :: _, _, h => h.elim
  | _ :: _, [], _, h => h.elim
theorem ents_ref : ∀ {es : List DictEntry} {kvs : List (Str × Int)}, EntsAre es kvs → es.any (·.refKey) = false
  | [], [], _ => rfl
  | e :: es, p :: ps, ⟨⟨t, h1⟩, _, h3⟩ => by
    rw [List.any_cons, ents_ref h3, Bool.or_false]
    unfold DictEntry.refKey
    rw [h1]
  | [], _ :: _, h => h.elim
  | _ :: _, [], h => h.elim
theorem ktab_at {K : PySem.W.Frag} {w : World} {d : Addr} {kvs : List (Str × Int)} (h : KTab K w d kvs) (x : Str) : ∃ r, PySem.W.nsIn K d x = some r ∧ match findS x kvs with
    | some i => ∃ t, r = some (.int i t)
    | none => r = none := by
  obtain ⟨es, n, h1, h2, h3, h4⟩ := h
  have hf := ents_find x h4
  unfold PySem.W.nsIn
  rw [h1]
  dsimp only
  cases q : findS x kvs with
  | some i =>
    rw [q] at hf
    obtain ⟨e, t, e1, e2⟩ := hf
    rw [e1]
    exact ⟨_, rfl, t, by rw [e2]⟩
  | none =>
    rw [q] at hf
    have hf : es.toList.find? (·.key.isStr x) = none := hf
    rw [hf]
    dsimp only
    rw [ents_ref h4]
    exact ⟨_, rfl, rfl⟩
def eTab (kvs : List (Str × Int)) (a : FE) (env : En) (M : List MO) : Option (D × List MO) := (a env M).bind fun r => match r.1 with
  | .str x => (findS x kvs).map fun i => (.int i, r.2)
  | _ => none
def eTabIn (neg : Bool) (kvs : List (Str × Int)) (a : FE) (env : En) (M : List MO) : Option (D × List MO) := (a env M).bind fun r => match r.1 with
  | .str x => some (.bl (if neg = true then !(findS x kvs).isSome else (findS x kvs).isSome), r.2)
  | _ => none
def rTabIn (d : Addr) (neg : Bool) (kvs : List (Str × Int)) : R2 := fun x y H Q => ∃ z, x = .str z ∧ y = .ref d ∧ Q (.bl (if neg = true then !(findS z kvs).isSome else (findS z kvs).isSome)) H
theorem op_tabIn {X : Cx} {d : Addr} {kvs : List (Str × Int)} (T : KTab X.K X.w d kvs) : OpR X (compareOp .In) (rTabIn d false kvs) := by
  intro pins s σ H x y v u Q I rx ry h
  obtain ⟨z, rfl, rfl, q⟩ := h
  obtain ⟨t, rfl⟩ := (show ∃ t, v = Value.str z t from rx)
  obtain rfl : u = Value.ref d := ry
  obtain ⟨r, e1, e2⟩ := ktab_at T z
  obtain ⟨es, n, h1, h2, h3, h4⟩ := T
  refine wpAny_in_of (strKind_is X.prog X.w z t) h3 (PySem.W.mapOf_K (prog := X.prog) (w := X.w) I.kIn h1 h2) ?_
  rw [PySem.W.find_K h1 e1]
  have e3 : r.isSome = (findS z kvs).isSome := by
    cases q : findS z kvs with
    | some i => rw [q] at e2; obtain ⟨t, rfl⟩ := e2; rfl
    | none => rw [q] at e2; rw [show r = none from e2]; rfl
  rw [e3]
  exact ⟨.bl (findS z kvs).isSome, H, I.tok _, rfl, q⟩
theorem op_tabNin {X : Cx} {d : Addr} {kvs : List (Str × Int)} (T : KTab X.K X.w d kvs) : OpR X (compareOp .NotIn) (rTabIn d true kvs) := by
  intro pins s σ H x y v u Q I rx ry h
  obtain ⟨z, rfl, rfl, q⟩ := h
  obtain ⟨t, rfl⟩ := (show ∃ t, v = Value.str z t from rx)
  obtain rfl : u = Value.ref d := ry
  obtain ⟨r, e1, e2⟩ := ktab_at T z
  obtain ⟨es, n, h1, h2, h3, h4⟩ := T
  refine wpAny_notIn_of (strKind_is X.prog X.w z t) h3 (PySem.W.mapOf_K (prog := X.prog) (w := X.w) I.kIn h1 h2) ?_
  rw [PySem.W.find_K h1 e1]
  have e3 : r.isSome = (findS z kvs).isSome := by
    cases q : findS z kvs with
    | some i => rw [q] at e2; obtain ⟨t, rfl⟩ := e2; rfl
    | none => rw [q] at e2; rw [show r = none from e2]; rfl
  rw [e3]
  exact ⟨.bl (!(findS z kvs).isSome), H, I.tok _, rfl, q⟩
section
variable {X : Cx} {a : Expr} {fa : FE} {pos p2 : Pos} {x : Str} {kvs : List (Str × Int)}
theorem ev_tabIn {G : Gx} {d : Addr} {neg : Bool} {ta : TE} (va : Ev G ta fa) : Ev G (tOp (rTabIn d neg kvs) ta (tC (.ref d))) (eTabIn neg kvs fa) := by
  intro p env M σ z M' ok er h Q k
  obtain ⟨⟨d1, M1⟩, e1, h⟩ := bind_some h
  cases d1 with
  | str y =>
    cases h
    refine va p env M σ _ _ ok er e1 _ fun q v l m ok1 rv => ?_
    cases rv
    exact ⟨y, rfl, rfl, k q _ l m ok1 (.bl _)⟩
  | _ => cases h
theorem se_tab (T : ∃ d, X.mg x = some (.ref d) ∧ KTab X.K X.w d kvs) (hg : Gl X x) (ha : SE X a fa) (hd : (x == ("__debug__" : Str)) = false := by decide) (hs : PlainIx a := by exact fun _ _ => rfl) : SE X (.Subscript (.Name x p2) a pos) (eTab kvs fa) := by
  obtain ⟨d, hm, T⟩ := T
  obtain ⟨ta, pa, va⟩ := ha.ex
  refine ⟨_, pe_ix ix_kdict (pe_glob (v := .ref d) hg hm rfl hd) pa hs, fun p env M σ z M' ok er h Q k => ?_⟩
  obtain ⟨⟨d1, M1⟩, e1, h⟩ := bind_some h
  cases d1 with
  | str y =>
    obtain ⟨i, e2, h⟩ := map_some h
    cases h
    refine va p env M σ _ _ ok er e1 _ fun q v l m ok1 rv => ?_
    cases rv
    obtain ⟨r, e3, e4⟩ := ktab_at T y
    rw [e2] at e4
    obtain ⟨t, rfl⟩ := e4
    obtain ⟨es, n, h1, h2, h3, h4⟩ := T
    exact ⟨d, y, .int i, rfl, rfl, ⟨es, n, _, h1, h2, e3, ⟨t, rfl⟩⟩, k q _ l m ok1 (.int i)⟩
  | _ => cases h
theorem se_tabIn (T : ∃ d, X.mg x = some (.ref d) ∧ KTab X.K X.w d kvs) (hg : Gl X x) (ha : SE X a fa) (hd : (x == ("__debug__" : Str)) = false := by decide) (hm : behindInMarks .In (.Name x p2) = false := by rfl) : SE X (.Compare a [.In] [.Name x p2] pos) (eTabIn false kvs fa) := by
  obtain ⟨d, hg2, T⟩ := T
  obtain ⟨ta, pa, va⟩ := ha.ex
  exact ⟨_, pe_cmpR (op_tabIn T) pa (pe_glob (v := .ref d) hg hg2 rfl hd) hm, ev_tabIn va⟩
theorem se_tabNin (T : ∃ d, X.mg x = some (.ref d) ∧ KTab X.K X.w d kvs) (hg : Gl X x) (ha : SE X a fa) (hd : (x == ("__debug__" : Str)) = false := by decide) (hm : behindInMarks .NotIn (.Name x p2) = false := by rfl) : SE X (.Compare a [.NotIn] [.Name x p2] pos) (eTabIn true kvs fa) := by
  obtain ⟨d, hg2, T⟩ := T
  obtain ⟨ta, pa, va⟩ := ha.ex
  exact ⟨_, pe_cmpR (op_tabNin T) pa (pe_glob (v := .ref d) hg hg2 rfl hd) hm, ev_tabIn va⟩
theorem st_tabIn (T : ∃ d, X.mg x = some (.ref d) ∧ KTab X.K X.w d kvs) (hg : Gl X x) (ha : SE X a fa) (hd : (x == ("__debug__" : Str)) = false := by decide) (hm : behindInMarks .In (.Name x p2) = false := by rfl) : ST X (.Compare a [.In] [.Name x p2] pos) (tE (eTabIn false kvs fa)) := by
  obtain ⟨d, hg2, T⟩ := T
  obtain ⟨ta, pa, va⟩ := ha.ex
  exact ⟨_, pt_cmpR (op_tabIn T) pa (pe_glob (v := .ref d) hg hg2 rfl hd) hm, evt_test (ev_tabIn va)⟩
theorem st_tabNin (T : ∃ d, X.mg x = some (.ref d) ∧ KTab X.K X.w d kvs) (hg : Gl X x) (ha : SE X a fa) (hd : (x == ("__debug__" : Str)) = false := by decide) (hm : behindInMarks .NotIn (.Name x p2) = false := by rfl) : ST X (.Compare a [.NotIn] [.Name x p2] pos) (tE (eTabIn true kvs fa)) := by
  obtain ⟨d, hg2, T⟩ := T
  obtain ⟨ta, pa, va⟩ := ha.ex
  exact ⟨_, pt_cmpR (op_tabNin T) pa (pe_glob (v := .ref d) hg hg2 rfl hd) hm, evt_test (ev_tabIn va)⟩
end
end BX

set_option Elab.async false
set_option linter.all false
set_option maxRecDepth 100000
set_option maxHeartbeats 2000000
/-! BX23: dicts whose keys are ints. -/
namespace BX
open PySem L2
def isIntD : D → Bool
  | .int _ => true
  | _ => false
def allIntK (kvs : List (D × D)) : Bool := kvs.all fun q => isIntD q.1
theorem isInt_of {d : D} (h : isIntD d = true) : ∃ i, d = .int i := by
  cases d <;> first | exact ⟨_, rfl⟩ | cases h
abbrev KP (G : Gx) (S : Hp) (p : Key × V) (q : D × D) : Prop := kD p.1 = q.1 ∧ Rep G.K S [] p.2 q.2
theorem dok_int {G : Gx} {S H : Hp} {a : Addr} {kvs : List (D × D)} (h : DOk G S H a kvs) (ht : allIntK kvs = true) : ∃ kk : List (Key × V), H a = some (.dK kk) ∧ Paired (KP G S) kk kvs := by
  rcases h with h | ⟨xs, _, pr, hne⟩
  · exact h
  · exfalso
    cases pr with
    | nil => exact hne rfl
    | cons p1 p2 =>
      obtain ⟨_, ⟨l, h2⟩, _⟩ := p1
      have := (List.all_eq_true.mp ht) _ List.mem_cons_self
      rw [h2] at this
      cases this
theorem val_find {G : Gx} {S : Hp} {i : Int} : ∀ {kk : List (Key × V)} {kvs : List (D × D)}, Paired (KP G S) kk kvs → allIntK kvs = true → (valV kk (.inl i)).isSome = (findD (.num i) kvs).isSome ∧ ∀ d, findD (.num i) kvs = some d → ∃ v, valV kk (.inl i) = some v ∧ Rep G.K S [] v d
  | [], _, .nil, _ => ⟨rfl, fun d h => by cases h⟩
  | p :: kk, q :: kvs, .cons p1 p2, ht => by
    obtain ⟨h1, h2⟩ := p1
    unfold allIntK at ht
    rw [List.all_cons, Bool.and_eq_true] at ht
    obtain ⟨j, hj⟩ := isInt_of ht.1
    have hp : p.1 = .inl j := by
      rw [hj] at h1
      cases hp : p.1 with
      | inl n => rw [hp] at h1; cases h1; rfl
      | inr x => rw [hp] at h1; cases h1
    have hk : nk q.1 = some (.num j) := by rw [hj]; rfl
    by_cases hij : j = i
    · subst hij
      rw [findD, if_pos hk, valV_pos hp]
      exact ⟨rfl, fun d e => by cases e; exact ⟨_, rfl, h2⟩⟩
    · have h3 : ¬ nk q.1 = some (.num i) := by rw [hk]; intro z; cases z; exact hij rfl
      have h4 : ¬ p.1 = .inl i := by rw [hp]; intro z; cases z; exact hij rfl
      rw [findD, if_neg h3]
      have e : valV (p :: kk) (.inl i) = valV kk (.inl i) := by simp [valV, List.find?_cons, h4]
      rw [e]
      exact val_find p2 ht.2
def gDinI (M : List MO) (d e : D) : Option D := (dctL M e).bind fun r => match d with
  | .int i => if allIntK r.2 = true then some (.bl (findD (.num i) r.2).isSome) else none
  | _ => none
def gDninI (M : List MO) (d e : D) : Option D := (dctL M e).bind fun r => match d with
  | .int i => if allIntK r.2 = true then some (.bl (!(findD (.num i) r.2).isSome)) else none
  | _ => none
def gDgetI (M : List MO) (e d : D) : Option D := (dctL M e).bind fun r => match d with
  | .int i => if allIntK r.2 = true then findD (.num i) r.2 else none
  | _ => none
def rDi (f : Option V → Hp → VK → Prop) : R2 := fun y x H Q => ∃ a o, x = .ref a ∧ DGet H a y o ∧ f o H Q
theorem op_dinI {X : Cx} (hu : X.A.units + 66 < cLine) : OpR X (compareOp .In) (rDi fun o H Q => Q (.bl o.isSome) H) := by
  intro pins s σ H y x v u Q I ry rx h
  obtain ⟨a, o, rfl, g, q⟩ := h
  obtain rfl : u = Value.ref a := rx
  exact d_in (by omega) I g ry fun s3 I3 => ⟨.bl o.isSome, H, I3, rfl, q⟩
theorem op_dninI {X : Cx} (hu : X.A.units + 66 < cLine) : OpR X (compareOp .NotIn) (rDi fun o H Q => Q (.bl (!o.isSome)) H) := by
  intro pins s σ H y x v u Q I ry rx h
  obtain ⟨a, o, rfl, g, q⟩ := h
  obtain rfl : u = Value.ref a := rx
  exact d_notIn (by omega) I g ry fun s3 I3 => ⟨.bl (!o.isSome), H, I3, rfl, q⟩
theorem rb_dinI {G : Gx} : RB G (rDi fun o H Q => Q (.bl o.isSome) H) gDinI := by
  intro p M x y d e z ok rx ry h Q k
  obtain ⟨⟨j, kvs⟩, h1, h⟩ := bind_some h
  cases d with
  | int i =>
    simp only at h
    split at h
    · rename_i h2
      cases h
      cases rx
      obtain ⟨a, rfl, _, h4⟩ := dctL_ok ok ry h1
      obtain ⟨kk, e1, e2⟩ := dok_int h4 h2
      refine ⟨a, valV kk (.inl i), rfl, DGet.k (k := .inl i) e1, ?_⟩
      show Q _ _
      rw [(val_find (i := i) e2 h2).1]
      exact k p _ (.refl p) rfl ok (.bl _)
    · cases h
  | _ => cases h
theorem rb_dninI {G : Gx} : RB G (rDi fun o H Q => Q (.bl (!o.isSome)) H) gDninI := by
  intro p M x y d e z ok rx ry h Q k
  obtain ⟨⟨j, kvs⟩, h1, h⟩ := bind_some h
  cases d with
  | int i =>
    simp only at h
    split at h
    · rename_i h2
      cases h
      cases rx
      obtain ⟨a, rfl, _, h4⟩ := dctL_ok ok ry h1
      obtain ⟨kk, e1, e2⟩ := dok_int h4 h2
      refine ⟨a, valV kk (.inl i), rfl, DGet.k (k := .inl i) e1, ?_⟩
      show Q _ _
      rw [(val_find (i := i) e2 h2).1]
      exact k p _ (.refl p) rfl ok (.bl _)
    · cases h
  | _ => cases h
section
variable {X : Cx} {a b o i : Expr} {fa fb fo fi : FE} {pos : Pos}
theorem se_dinI (hu : X.A.units + 66 < cLine) (ha : SE X a fa) (hb : SE X b fb) (hm : behindInMarks .In b = false := by with_unfolding_all rfl) : SE X (.Compare a [.In] [b] pos) (eBin gDinI fa fb) := se_cmp (op_dinI hu) rb_dinI ha hb hm
theorem se_dninI (hu : X.A.units + 66 < cLine) (ha : SE X a fa) (hb : SE X b fb) (hm : behindInMarks .NotIn b = false := by with_unfolding_all rfl) : SE X (.Compare a [.NotIn] [b] pos) (eBin gDninI fa fb) := se_cmp (op_dninI hu) rb_dninI ha hb hm
theorem st_dinI (hu : X.A.units + 66 < cLine) (ha : SE X a fa) (hb : SE X b fb) (hm : behindInMarks .In b = false := by with_unfolding_all rfl) : ST X (.Compare a [.In] [b] pos) (tE (eBin gDinI fa fb)) := st_cmp (op_dinI hu) rb_dinI ha hb hm
theorem st_dninI (hu : X.A.units + 66 < cLine) (ha : SE X a fa) (hb : SE X b fb) (hm : behindInMarks .NotIn b = false := by with_unfolding_all rfl) : ST X (.Compare a [.NotIn] [b] pos) (tE (eBin gDninI fa fb)) := st_cmp (op_dninI hu) rb_dninI ha hb hm
theorem se_dgetI (hu : X.A.units + 66 < cLine) (ho : SE X o fo) (hi : SE X i fi) (hs : NoSl i := by exact fun _ _ => rfl) : SE X (.Subscript o i pos) (eBin gDgetI fo fi) := by
  obtain ⟨t, pt, vt⟩ := ho.ex
  obtain ⟨u, pu, vu⟩ := hi.ex
  refine ⟨_, pe_dget (by omega) pt pu hs, fun p env M σ d M' ok er h Q kk => ?_⟩
  obtain ⟨⟨d1, M1⟩, e1, h⟩ := bind_some h
  obtain ⟨⟨d2, M2⟩, e2, h⟩ := bind_some h
  obtain ⟨z, h3, h⟩ := map_some h
  cases h
  refine vt p env M σ d1 M1 ok er e1 _ fun q x l1 m1 ok1 rx => ?_
  refine vu q env M1 σ d2 M2 ok1 (er.mono l1) e2 _ fun q2 y l2 m2 ok2 ry => ?_
  obtain ⟨⟨j, kvs⟩, h4, h3⟩ := bind_some h3
  cases d2 with
  | int n =>
    simp only at h3
    split at h3
    · rename_i h5
      cases ry
      obtain ⟨a, rfl, _, h8⟩ := dctL_ok ok2 (l2.rep rx) h4
      obtain ⟨kk2, g1, g2⟩ := dok_int h8 h5
      obtain ⟨v, g3, g4⟩ := (val_find (i := n) g2 h5).2 _ h3
      refine ⟨a, v, rfl, ?_, kk q2 v (l1.trans l2) (m2.trans m1) ok2 (g4.mono (m' := q2.m) (fun _ _ z => z) fun _ _ z => by simp at z)⟩
      rw [← g3]
      exact DGet.k (k := .inl n) g1
    · cases h3
  | _ => cases h3
theorem kp_map {G : Gx} {S : Hp} {i : Int} {e : D} {v : V} (re : Rep G.K S [] v e) : ∀ {kk : List (Key × V)} {kvs : List (D × D)}, Paired (KP G S) kk kvs → allIntK kvs = true → Paired (KP G S) (kk.map fun kv => if kv.1 = .inl i then (kv.1, v) else kv) (kvs.map fun q => if nk q.1 = some (.num i) then (q.1, e) else q)
  | [], _, .nil, _ => .nil
  | p :: kk, q :: kvs, .cons p1 p2, ht => by
    obtain ⟨h1, h2⟩ := p1
    unfold allIntK at ht
    rw [List.all_cons, Bool.and_eq_true] at ht
    obtain ⟨j, hj⟩ := isInt_of ht.1
    have hp : p.1 = .inl j := by
      rw [hj] at h1
      cases hp : p.1 with
      | inl n => rw [hp] at h1; cases h1; rfl
      | inr x => rw [hp] at h1; cases h1
    have hk : nk q.1 = some (.num j) := by rw [hj]; rfl
    rw [List.map_cons, List.map_cons]
    refine .cons ?_ (kp_map re p2 ht.2)
    by_cases hij : j = i
    · subst hij
      rw [if_pos hp, if_pos hk]
      exact ⟨h1, re⟩
    · have h3 : ¬ nk q.1 = some (.num i) := by rw [hk]; intro z; cases z; exact hij rfl
      have h4 : ¬ p.1 = .inl i := by rw [hp]; intro z; cases z; exact hij rfl
      rw [if_neg h3, if_neg h4]
      exact ⟨h1, h2⟩
theorem kp_snoc {G : Gx} {S : Hp} {p : Key × V} {q : D × D} : ∀ {kk : List (Key × V)} {kvs : List (D × D)}, Paired (KP G S) kk kvs → KP G S p q → Paired (KP G S) (kk ++ [p]) (kvs ++ [q])
  | [], _, .nil, h => .cons h .nil
  | _ :: _, _ :: _, .cons p1 p2, h => .cons p1 (kp_snoc p2 h)
theorem any_val {i : Int} : ∀ kk : List (Key × V), (kk.any fun kv => decide (kv.1 = Sum.inl i)) = (valV kk (Sum.inl i)).isSome := fun kk => by rw [valV_any]
end
def fSetDI (fv fo fi : FE) (env : En) (M : List MO) : Option Out := (fv env M).bind fun r => (fo env r.2).bind fun s => (fi env s.2).bind fun t => (dctL t.2 s.1).bind fun q => match t.1 with
  | .int i => if (nl r.1 && allIntK q.2 && lim q.2.length) = true then some (.nx env (t.2.set q.1 (.dct (storeD (.num i) (.int i) r.1 q.2)))) else none
  | _ => none
section
variable {X : Cx} {W : Nat → Hp → Prop} {e o i : Expr} {pos tpos : Pos} {fv fo fi : FE}
def rSetI : V → V → V → Hp → (Hp → Prop) → Prop := fun x y v H Q => ∃ a H', x = .ref a ∧ DPut H a y v H' ∧ Q H'
theorem set_dctI (hu : X.A.units + 66 < cLine) : PSet X rSetI := by
  intro pins s σ H o i v ov iv u Q I ro ri rv h
  obtain ⟨a, H', rfl, g, q⟩ := h
  obtain rfl : ov = Value.ref a := ro
  exact d_setItem (by omega) I g ri rv fun s4 I4 => ⟨H', I4, q⟩
theorem ss_setDI (hu : X.A.units + 66 < cLine) (hv : SE X e fv) (ho : SE X o fo) (hi : SE X i fi)
    (ha : ∀ v, assign (.Subscript o i tpos) X.env v = (do
      let ov ← holding [v] (eval o X.env)
      let iv ← holding [v, ov] (eval i X.env)
      standAt tpos
      holding [v, ov, iv] (setItem ov iv v)
      release [v, ov, iv] []) := by intro _; rfl)
    (hs : swapsWithSole [.Subscript o i tpos] e pos.line X.env = pure false := by rfl) (hw : swappedStores [.Subscript o i tpos] e X.env = pure none := by rfl) (h1 : (assignEach [.Subscript o i tpos] X.env).map (·.2) = [assign (.Subscript o i tpos) X.env] := by rfl) :
    SS X W (.Assign [.Subscript o i tpos] e pos) (fSetDI fv fo fi) := by
  obtain ⟨tv, pv, vv⟩ := hv.ex
  obtain ⟨t, pt, vt⟩ := ho.ex
  obtain ⟨u, pu, vu⟩ := hi.ex
  refine ⟨_, ps_asg pv (pg_sub pt pu (set_dctI hu) ha) hs hw h1, fun p env M σ oc ok er h D k => ?_⟩
  obtain ⟨⟨d1, M1⟩, e1, h⟩ := bind_some h
  obtain ⟨⟨d2, M2⟩, e2, h⟩ := bind_some h
  obtain ⟨⟨d3, M3⟩, e3, h⟩ := bind_some h
  obtain ⟨⟨j, kvs⟩, e4, h⟩ := bind_some h
  cases d3 with
  | int n =>
    simp only at h
    split at h
    · rename_i h5
      simp only [Bool.and_eq_true] at h5
      obtain ⟨⟨g2, g3⟩, g4⟩ := h5
      cases h
      refine vv p env M σ d1 M1 ok er e1 _ fun q x l1 m1 ok1 rx => ?_
      refine vt q env M1 σ d2 M2 ok1 (er.mono l1) e2 _ fun q2 y l2 m2 ok2 ry => ?_
      refine vu q2 env M2 σ _ M3 ok2 (er.mono (l1.trans l2)) e3 _ fun q3 z l3 m3 ok3 rz => ?_
      obtain ⟨a, rfl, h3, h4⟩ := dctL_ok ok3 (l3.rep ry) e4
      have l13 := (l1.trans l2).trans l3
      cases rz
      obtain ⟨kk, c1, c2⟩ := dok_int h4 g3
      have hlen := Paired.length c2
      have re : Rep X.K q3.S [] x d1 := ((l2.trans l3).rep rx).of_nl g2
      refine ⟨a, _, rfl, DPut.k (k := .inl n) c1 (by rw [hlen]; exact lim_lt g4), ?_⟩
      have l4 : Le q3 (q3.put a (.dK (putK kk (.inl n) x))) := Le.put (List.mem_of_getElem? h3)
      refine k (q3.put a (.dK (putK kk (.inl n) x))) σ (l13.trans l4) (ok3.put h3 ?_) (er.mono (l13.trans l4))
      refine .inl ⟨_, upd_same, ?_⟩
      unfold putK storeD
      rw [any_val, (val_find (i := n) c2 g3).1]
      split
      · exact kp_map re c2 g3
      · exact kp_snoc c2 ⟨rfl, re⟩
    · cases h
  | _ => cases h
end
end BX

set_option Elab.async false
set_option linter.all false
set_option maxRecDepth 100000
set_option maxHeartbeats 4000000
/-! BX24: sorted(set(xs)), xs a list of ints. -/
namespace BX
open PySem L2 PyProof.Rows
abbrev nso (w : World) : Obj := { cls := .type "set", dict := none, data := .set #[] 0 (.fresh 0 0 (!w.params.followText "set-order")) }
section
variable {P : Program} {w : World} {A : Around} {E : Value → Shared → Prop} {s : Shared}
/-- set(l), l a list of ints -/
theorem set_of_list {l : Addr} {its : Array Value} (ns : List Int) {Q : Value → Shared → Prop} (hd : A.handled = none) (il : s.heap.IsList l its) (ia : IntsAre its.toList ns) (few : ns.length + 1 < scanBound)
    (k : ∀ (g : Heap) (tk c : Nat), SetR w g s.heap.objs.size (fun j => decide (j ∈ ns)) c → c ≤ ns.length → (∀ b o, s.heap.get? b = some o → g.get? b = some o) → Q (.ref s.heap.objs.size) { s with heap := g, toks := tk }) :
    wpAny (model P w) A (call (.type "set") [.ref l]) Q E s := by
  have esz : its.size = ns.length := by have q := IntsAre.length ia; rw [Array.length_toList] at q; exact q
  obtain ⟨c, tl, mro1⟩ := F.called_set.mro
  have md := F.called_set.made; have sb := F.called_set.sub
  refine wpAny_call (codeAny_of_tree ?_); show wpAny _ _ (callAny (.type "set") _) _ _ _
  refine wpAny_pure ⟨Code.quiet_builtin _ (by decide +kernel), codeAny_builtin F.entry_type_call ?_⟩; rw [Around.under_plain (weight_type_call_type "set" [.ref l] []) rfl]
  have f1 := F.called_set.notType; have f2 := F.called_set.canCreate; have f3 := F.typeCall_set_1 (.ref l)
  repeat (any_goals (first | assumption | wp_step))
  refine codeAny_mono (code_set_led1 (.ref l) (E := E) (Q₁ := fun ob s1 => ob = .ref s.heap.objs.size ∧ s1 = { s with heap := s.heap.push (nso w) }) ⟨rfl, rfl⟩) fun r s1 hr => ?_
  match r, hr with
  | .error e, hr => exact hr
  | .ok (.ret ob), hr =>
    obtain ⟨rfl, rfl⟩ := hr
    have got : (s.heap.push (nso w)).get? s.heap.objs.size = some (nso w) := Heap.get?_push_size _ rfl
    have isS : Shared.TypeIs { s with heap := s.heap.push (nso w) } (.ref s.heap.objs.size) "set" := ⟨_, got, rfl⟩
    have i1 := F.called_set.init.lookup; have i2 := F.called_set.init.bind (.ref s.heap.objs.size)
    repeat (any_goals (first | assumption | wp_step))
    refine codeAny_mono (codeAny_call_builtin (R := wants (fun r s2 => r = .none ∧ ∃ g tk c, s2 = { s with heap := g, toks := tk } ∧ SetR w g s.heap.objs.size (fun j => decide (j ∈ ns)) c ∧ c ≤ ns.length ∧
      (∀ b o, s.heap.get? b = some o → g.get? b = some o)) E) F.called_set.init.plain F.entry_set_init (check_set_init_1 isS ?_)) fun r2 s2 hr2 => ?_
    · obtain ⟨⟨oc, od, odt, osl⟩, hol, hcl, nl, hdl⟩ := il
      simp only at hcl hdl; subst hcl; subst hdl
      have hol2 : (s.heap.push (nso w)).get? l = some { cls := .type "list", dict := od, data := .seq its nl, slots := osl } := Heap.get?_push_of_some _ hol
      have s1 := F.sub_list_set; have s2 := F.sub_list_frozenset
      have ne1 : (Value.type "list" == Value.type "dict") = false := by decide
      have il2 : (s.heap.push (nso w)).IsList l its := ⟨_, hol2, rfl, nl, rfl⟩
      unfold Builtin.«set.__init__» noKeywords Builtin.Frozenset.updateFrom; generalize hPI : pyIter = PI
      wp_walk; subst hPI
      refine wpAny_pyIter_list il2 (wpAny_bind (wpAny_runValue ?_))
      have ll : l < s.heap.objs.size := Heap.lt_size hol
      have hd3 : A.in1.in1.in1.handled = none := by simp [hd]
      have neI : l ≠ (s.heap.push (nso w)).objs.size := by rw [Heap.size_push]; exact Nat.ne_of_lt (Nat.lt_succ_of_lt ll)
      have nin : s.heap.objs.size ∉ [(s.heap.push (nso w)).objs.size, l] := by
        rw [Heap.size_push]; intro h; rcases List.mem_cons.mp h with h | h
        · exact Nat.ne_of_lt (Nat.lt_succ_self _) h
        · rw [List.mem_singleton] at h; exact Nat.ne_of_gt ll h
      have val : ∀ (i : Nat) (v : Value), its[i]? = some v → ∃ k t, ns[i]? = some k ∧ v = .int k t := fun i v hv => by
        have hi : i < ns.length := by rw [← esz]; exact (Array.getElem?_eq_some_iff.mp hv).1
        obtain ⟨t, e⟩ := IntsAre.int_at ia i v (by rw [Array.getElem?_toList]; exact hv)
        exact ⟨ns[i], t, List.getElem?_eq_getElem hi, by rw [e, List.getD_eq_getElem?_getD, List.getElem?_eq_getElem hi] <;> rfl⟩
      refine set_update_ints ((Walks.list hd3 _ l neI its).toS) s.heap.objs.size nin ns esz few val (its.size - 0) 0 _ (by omega) (Nat.zero_le _) ⟨⟨_, Heap.get?_push_size _ rfl, rfl, rfl⟩, (il2.push _)⟩ ?zA ?zB
      case zA =>
        exact ⟨0, Nat.le_refl 0, setR_new_at (Heap.get?_push_of_some _ got)⟩
      case zB =>
        intro s5 c5 hm hc5 hS5
        obtain ⟨g5, g2, d5, tk5, os5⟩ := s5
        obtain rfl : g2 = s.gens := hm.gens
        obtain rfl : d5 = s.drawn := hm.drawn
        obtain rfl : os5 = s.os := hm.os
        show wpAny _ _ _ _ _ _; refine wpAny_pure ?_; show wpAny _ _ (ret Value.none) _ _ _
        rw [esz] at hc5
        refine wpAny_pure ⟨rfl, g5, tk5, c5, rfl, hS5, hc5, fun b o e => ?_⟩
        have b0 : b < s.heap.objs.size := Heap.lt_size e
        refine hm.heap b o (fun h => ?_) (Heap.get?_push_of_some _ (Heap.get?_push_of_some _ e))
        rcases List.mem_cons.mp h with h | h
        · exact Nat.ne_of_lt b0 h
        · rw [List.mem_singleton] at h
          have hz : (s.heap.push (nso w)).objs.size = s.heap.objs.size + 1 := Heap.size_push ..
          rw [h, hz] at b0; exact absurd b0 (Nat.not_lt_of_le (Nat.le_succ _))
    · match r2, hr2 with
      | .error e, hr2 => exact hr2
      | .ok (.ret r), hr2 =>
        obtain ⟨rfl, g, tk, c, rfl, q1, q2, q3⟩ := hr2
        repeat (any_goals (first | assumption | wp_step))
        exact k _ _ _ q1 q2 q3
end
end BX

set_option Elab.async false
set_option linter.all false
set_option maxRecDepth 100000
set_option maxHeartbeats 2000000
/-! BX25: sorted(set(xs)) as a rule. -/
namespace BX
open PySem L2
def rSetL (w : World) (K : PySem.W.Frag) : List V → Hp → VK → Prop := fun vs H Q => ∃ (a : Addr) (ns : List Int), vs = [.ref a] ∧ SqL K H a (ns.map V.int) ∧ ns.length < 60 ∧ ∀ p c, c ≤ ns.length → H p = none → Q (.ref p) (upd H p (SetO w p (fun j => decide (j ∈ ns)) c))
theorem cr_setL {X : Cx} (hc : X.calm = true) : CallR X (.type "set") (rSetL X.w X.K) := by
  intro pins s σ H vs us Q I r h
  obtain ⟨a, ns, rfl, hs, hl, q⟩ := h
  obtain ⟨its, rv, pl, hz⟩ := I.list hs
  rw [Vals.ref1 r]
  have hi : PyProof.Rows.IntsAre its.toArray.toList ns := ints_of_vals rv
  refine set_of_list ns (I.ok.hd hc) pl.isList hi (by unfold scanBound; omega) fun g tk c R hcn k => ?_
  exact ⟨.ref _, upd H s.heap.objs.size (SetO X.w s.heap.objs.size (fun j => decide (j ∈ ns)) c), I.laid k (Nat.le_refl _) (setO_new R), rfl, q _ c hcn (I.hok.fresh (Nat.le_refl _))⟩
def insU (x : Int) : List Int → List Int
  | [] => [x]
  | y :: ys => if x < y then x :: y :: ys else if x = y then y :: ys else y :: insU x ys
def srtU : List Int → List Int
  | [] => []
  | x :: xs => insU x (srtU xs)
theorem insU_mem (x : Int) : ∀ (ys : List Int) (z : Int), z ∈ insU x ys ↔ z = x ∨ z ∈ ys
  | [], z => by simp [insU]
  | y :: ys, z => by
    rw [insU]
    split
    · simp
    · split
      · rename_i h
        subst h
        simp
      · rw [List.mem_cons, insU_mem x ys z, List.mem_cons]
        constructor
        · rintro (h | h | h)
          · exact .inr (.inl h)
          · exact .inl h
          · exact .inr (.inr h)
        · rintro (h | h | h)
          · exact .inr (.inl h)
          · exact .inl h
          · exact .inr (.inr h)
theorem insU_pw (x : Int) : ∀ {ys : List Int}, ys.Pairwise (· < ·) → (insU x ys).Pairwise (· < ·)
  | [], _ => by simp [insU]
  | y :: ys, h => by
    rw [List.pairwise_cons] at h
    rw [insU]
    split
    · rename_i hx
      rw [List.pairwise_cons]
      refine ⟨fun z hz => ?_, List.pairwise_cons.mpr h⟩
      rcases List.mem_cons.mp hz with rfl | hz
      · exact hx
      · exact Int.lt_trans hx (h.1 z hz)
    · split
      · exact List.pairwise_cons.mpr h
      · rw [List.pairwise_cons]
        refine ⟨fun z hz => ?_, insU_pw x h.2⟩
        rcases (insU_mem x ys z).mp hz with rfl | hz
        · omega
        · exact h.1 z hz
theorem srtU_mem : ∀ (xs : List Int) (z : Int), z ∈ srtU xs ↔ z ∈ xs
  | [], z => by simp [srtU]
  | x :: xs, z => by rw [srtU, insU_mem, srtU_mem xs z, List.mem_cons]
theorem srtU_pw : ∀ xs : List Int, (srtU xs).Pairwise (· < ·)
  | [] => List.Pairwise.nil
  | x :: xs => insU_pw x (srtU_pw xs)
theorem up_eq : ∀ {a b : List Int}, a.Pairwise (· < ·) → b.Pairwise (· < ·) → (∀ x, x ∈ a ↔ x ∈ b) → a = b
  | [], [], _, _, _ => rfl
  | [], y :: b, _, _, h => by have := (h y).mpr List.mem_cons_self; cases this
  | x :: a, [], _, _, h => by have := (h x).mp List.mem_cons_self; cases this
  | x :: a, y :: b, ha, hb, h => by
    rw [List.pairwise_cons] at ha hb
    have e : x = y := by
      rcases List.mem_cons.mp ((h x).mp List.mem_cons_self) with e | e
      · exact e
      · rcases List.mem_cons.mp ((h y).mpr List.mem_cons_self) with e2 | e2
        · exact e2.symm
        · have h1 := hb.1 x e
          have h2 := ha.1 y e2
          omega
    subst e
    rw [up_eq ha.2 hb.2 fun z => ?_]
    have hz := h z
    rw [List.mem_cons, List.mem_cons] at hz
    constructor
    · intro q
      have := ha.1 z q
      rcases hz.mp (.inr q) with e | e
      · omega
      · exact e
    · intro q
      have := hb.1 z q
      rcases hz.mpr (.inr q) with e | e
      · omega
      · exact e
def nSortedSet (a : FE) (env : En) (M : List MO) : Option (List D × List MO) := (a env M).bind fun r => (asR r.2 r.1).bind fun xs => (intsD xs).bind fun ns => if ns.length < 60 then some ((srtU ns).map D.int, r.2) else none
section
variable {X : Cx} {e : Expr} {fa : FE} {p1 p2 p3 pos : Pos}
theorem sn_sortedSet (hc : X.calm = true) (hm : X.mg "sorted" = none) (hm2 : X.mg "set" = none) (ha : SE X e fa) (hg : Gl X "sorted" := by rfl) (hg2 : Gl X "set" := by rfl) (he : starEach [e] X.env = (false, eval e X.env) :: starEach [] X.env := by rfl)
    (he2 : starEach [.Call (.Name "set" p2) [e] [] p3] X.env = (false, eval (.Call (.Name "set" p2) [e] [] p3) X.env) :: starEach [] X.env := by rfl) : SN X (.Call (.Name "sorted" p1) [.Call (.Name "set" p2) [e] [] p3] [] pos) (nSortedSet fa) := by
  obtain ⟨t, pt, vt⟩ := ha.ex
  refine ⟨_, pe_callB (cr_sortedSet hc) hg hm (by decide +kernel) (pa_cons (pe_callTy (cr_setL hc) hg2 hm2 (by decide +kernel) (pa_cons pt pa_nil he) (by decide) (by decide) he (by rfl)) pa_nil he2) (by decide) (by decide) he2 (by rfl), fun p env M σ ds M' ok er h Q k => ?_⟩
  obtain ⟨⟨d1, M1⟩, e1, h⟩ := bind_some h
  obtain ⟨xs, e2, h⟩ := bind_some h
  obtain ⟨ns, e3, h⟩ := bind_some h
  split at h
  · rename_i hlt
    cases h
    refine vt p env M σ d1 M1 ok er e1 _ fun q x l m ok1 rx => ?_
    obtain ⟨a, us, rfl, h3, h4⟩ := asR_ok ok1 rx e2
    rw [intsD_some e3] at h4
    have e := h4.ints_inv
    subst e
    refine ⟨a, ns, rfl, h3, hlt, fun b c hcn hb => ?_⟩
    refine ⟨b, _, c, rfl, upd_same, by omega, fun ms l2 h5 h6 h7 h8 => ?_⟩
    have hms : ms = srtU ns := up_eq h5 (srtU_pw ns) fun z => by rw [h6 z, decide_eq_true_eq, srtU_mem]
    subst hms
    have lb : Le q (q.put b (SetO X.w b (fun j => decide (j ∈ ns)) c)) := Le.pend hb
    have okb : Ok (gx X) (q.put b (SetO X.w b (fun j => decide (j ∈ ns)) c)) M1 := ok1.pend (ok1.S_none hb) (ok1.not_m hb)
    obtain ⟨f1, f2, f0, f3, f4, f5⟩ := fresh_new (xs := (srtU ns).map V.int) (l.trans lb) okb h8
    exact k ((q.put b (SetO X.w b (fun j => decide (j ∈ ns)) c)).put l2 (.lst ((srtU ns).map V.int))) l2 _ f1 f0 f2 f3 f4 f5 Reps.ints
  · cases h
end
/-! ### how many values -/
def LN (fm : FM) (n : Nat) : Prop := ∀ env M ms M', fm env M = some (ms, M') → ms.length = n
theorem ln_nil : LN mNil 0 := fun env M ms M' h => by cases h; rfl
theorem ln_E {fe : FE} {fm : FM} {n : Nat} (r : LN fm n) : LN (mE fe fm) (n + 1) := fun env M ms M' h => by
  obtain ⟨⟨d1, M1⟩, e1, h⟩ := bind_some h
  obtain ⟨⟨d2, M2⟩, e2, h⟩ := map_some h
  cases h
  rw [List.length_cons, r _ _ _ _ e2]
theorem ln_N {fn : FA} {fm : FM} {n : Nat} (r : LN fm n) : LN (mN fn fm) (n + 1) := fun env M ms M' h => by
  obtain ⟨⟨d1, M1⟩, e1, h⟩ := bind_some h
  obtain ⟨⟨d2, M2⟩, e2, h⟩ := map_some h
  cases h
  rw [List.length_cons, r _ _ _ _ e2]
theorem ln_D {fm : FM} {n : Nat} (r : LN fm n) : LN (mD fm) (n + 1) := fun env M ms M' h => by
  obtain ⟨⟨d2, M2⟩, e2, h⟩ := map_some h
  cases h
  rw [List.length_cons, r _ _ _ _ e2]
theorem ln_le {fm : FM} {n : Nat} (r : LN fm n) (h : n ≤ 100) : ∀ env M ms M', fm env M = some (ms, M') → ms.length ≤ 100 := fun env M ms M' e => by rw [r env M ms M' e]; exact h
end BX

set_option Elab.async false
set_option linter.all false
set_option maxRecDepth 100000
set_option maxHeartbeats 2000000
/-! BX26: calls over all that may change; new lists and dicts as values. -/
namespace BX
open PySem L2
/-- f(..): the callee sees all mutable objects, what it makes stays -/
def eCallG (F : Fn) (args : FA) (env : En) (M : List MO) : Option (D × List MO) := (args env M).bind fun r => (F r.1 r.2).bind fun o => match o with
  | .rt d M' => some (d, M')
  | _ => none
theorem ev_callG {G : Gx} {ta : TA} {E : XK} {fs : FA} {F : Fn} {np : Nat} {cls : Nat → Value} (h : EvA G ta fs) (hn : ∀ env M ds M', fs env M = some (ds, M') → ds.length = np) : Ev G (tCall (spF G cls np F) [] E ta) (eCallG F fs) := by
  intro p env M σ d N ok er h1 Q kk
  obtain ⟨⟨ds, M1⟩, e1, h1⟩ := bind_some h1
  obtain ⟨o, e4, h1⟩ := bind_some h1
  split at h1
  · rename_i d1 M'
    cases h1
    refine h p env M σ ds M1 ok er e1 _ fun q xs l m ok1 r => ?_
    refine ⟨q, M1, ds, .rt d N, ?_, rfl, ok1, by rw [List.append_nil]; exact r, e4, fun w y l2 ok2 ry => kk w y (l.trans l2) rfl ok2 ry⟩
    rw [List.append_nil, r.length]
    exact hn _ _ _ _ e1
  · cases h1
section
variable {X : Cx} {e : Expr} {es : List Expr} {pos : Pos} {fs : FA} {x : Str} {k : Nat} {ps : List Str} {F : Fn} {cls : Nat → Value}
theorem se_callG {q : Pos} {n : Nat} (c : Cal X.prog X.w X.K X.mg X.base k x ps (spF (gx X) cls n F)) (ha : SAn X (e :: es) fs n) (hr : Room k X.A) (hg : Gl X x) (hdb : (x == ("__debug__" : Str)) = false := by decide)
    (he : starEach (e :: es) X.env = (false, eval e X.env) :: starEach es X.env := by rfl) (hpl : (backTo pos (starEach es X.env)).any (·.1) = false := by rfl) : SE X (.Call (.Name x q) (e :: es) [] pos) (eCallG F fs) := by
  obtain ⟨t, pt, vt⟩ := ha.a.ex
  obtain ⟨f, fd, F1, hm, hk, hb⟩ := c.ex
  exact ⟨_, pe_call F1 hr hg hm hk hb .nil pass0 pt hdb he hpl, ev_callG vt ha.n⟩
/-- f() -/
theorem se_callG0 {q : Pos} (c : Cal X.prog X.w X.K X.mg X.base k x ps (spF (gx X) cls 0 F)) (hr : Room k X.A) (hg : Gl X x) (hdb : (x == ("__debug__" : Str)) = false := by decide) : SE X (.Call (.Name x q) [] [] pos) (eCallG F aNil) := by
  obtain ⟨f, fd, F1, hm, hk, hb⟩ := c.ex
  refine ⟨_, pe_call0 F1 hr hg hm hk hb .nil pass0 hdb, ev_callG (fs := aNil) (fun p env M σ ds M' ok er h Q k => ?_) fun env M ds M' h => by cases h; rfl⟩
  cases h
  exact k p [] (.refl p) rfl ok .nil
/-- a new list as a value -/
def eNewL (f : FA) (env : En) (M : List MO) : Option (D × List MO) := (f env M).map fun r => (.loc r.2.length, r.2 ++ [.lst r.1])
theorem SN.loc {fn : FA} (h : SN X e fn) : SE X e (eNewL fn) := by
  obtain ⟨t, pt, vt⟩ := h.ex
  refine ⟨t, pt, fun p env M σ d M' ok er h1 Q kk => ?_⟩
  obtain ⟨⟨ds, M1⟩, e1, h1⟩ := map_some h1
  cases h1
  refine vt p env M σ ds M1 ok er e1 _ fun q a xs l hm hn hs ok1 hH r => ?_
  obtain ⟨l2, ok2, r2⟩ := new_ok ok l hm hn hs ok1 hH r
  exact kk ⟨q.m ++ [a], q.S, q.H⟩ _ l2 rfl ok2 r2
/-- {} as a value -/
def eNewD (_ : En) (M : List MO) : Option (D × List MO) := some (.loc M.length, M ++ [.dct []])
theorem se_newD : SE X (.Dict [] [] pos) eNewD := by
  refine ⟨_, pe_dnewK, fun p env M σ d M' ok er h Q k => ?_⟩
  cases h
  intro b hn
  have hm : b ∉ p.m := ok.not_m hn
  have hs := ok.S_none hn
  have l : Le p (p.put b (.dK [])) := Le.pend hn
  have ok1 : Ok (gx X) (p.put b (.dK [])) M := ok.pend hs hm
  have ok2 : Ok (gx X) ⟨p.m ++ [b], p.S, upd p.H b (.dK [])⟩ (M ++ [.dct []]) := add_obj (q := p.put b (.dK [])) ok1 hm hs (.inl ⟨[], upd_same, .nil⟩)
  have l2 : Le p ⟨p.m ++ [b], p.S, upd p.H b (.dK [])⟩ := alcM_le (G := gx X) (M := M) (q := p.put b (.dK [])) l fun c hc => by
    rw [List.mem_singleton] at hc
    rw [hc]; exact hn
  refine k ⟨p.m ++ [b], p.S, upd p.H b (.dK [])⟩ _ l2 rfl ok2 (.loc ?_)
  show (p.m ++ [b])[M.length]? = some b
  rw [← ok.len, List.getElem?_append_right (Nat.le_refl _)]
  simp
/-- f(..), a tuple whose new lists are mutable from here on -/
def eCallT (fm : FM) (env : En) (M : List MO) : Option (D × List MO) := (fm env M).map fun r => let s := alcM r.1 r.2; (.tup s.1, s.2)
theorem se_callT {q : Pos} {n : Nat} (c : Cal X.prog X.w X.K X.mg X.base k x ps (spF (gx X) cls n F)) (js : List Bool) (ha : SAn X (e :: es) fs n) (hr : Room k X.A) (hg : Gl X x) (hdb : (x == ("__debug__" : Str)) = false := by decide)
    (he : starEach (e :: es) X.env = (false, eval e X.env) :: starEach es X.env := by rfl) (hpl : (backTo q (starEach es X.env)).any (·.1) = false := by rfl) {q2 : Pos} : SE X (.Call (.Name x q2) (e :: es) [] q) (eCallT (mCallT F js fs)) := by
  obtain ⟨t, pt, vt⟩ := ha.a.ex
  obtain ⟨f, fd, F1, hm, hk, hb⟩ := c.ex
  refine ⟨_, pe_call F1 hr hg hm hk hb .nil pass0 pt hdb he hpl, fun p env M σ d9 M8 ok er h Q kk => ?_⟩
  obtain ⟨⟨ms, M9⟩, e0, h⟩ := map_some h
  cases h
  obtain ⟨⟨ds, M1⟩, e1, h1⟩ := bind_some e0
  obtain ⟨⟨ds', ks⟩, e2, h1⟩ := bind_some h1
  split at h1
  · rename_i hd
    obtain ⟨M0, e3, h1⟩ := bind_some h1
    obtain ⟨o, e4, h1⟩ := bind_some h1
    split at h1
    · rename_i d1 M'
      obtain ⟨⟨ms', tk⟩, e5, h1⟩ := bind_some h1
      split at h1
      · rename_i hd2
        obtain ⟨N', e6, h1⟩ := map_some h1
        cases h1
        refine vt p env M σ ds M1 ok er e1 _ fun q xs l m ok1 r => ?_
        obtain ⟨as, a1, a2, a3, a4⟩ := prep_ok [] rfl e2 r
        simp only [List.nil_append] at a3
        refine ⟨⟨as, q.S, q.H⟩, M0, ds', .rt (.tup d1) M', ?_, rfl, callee_ok ok1 a1 a2 hd e3, ?_, e4, fun w y l2 ok2 ry => ?_⟩
        · rw [List.append_nil, r.length]
          exact ha.n _ _ _ _ e1
        · rw [List.append_nil]
          exact a3
        · obtain ⟨l3, ok3⟩ := caller_ok (S' := w.S) ok1 a1 a2 hd e3 l2 ok2 e6 (fun _ _ z => z) fun a o z => .inl z
          cases ry with
          | @tup T us _ hT hus =>
            have hw : ∀ k a, k ∈ tk → w.m[k]? = some a → q.H a = none := fun k a hk ha => by
              have hge := thawL_ge e5 k hk
              rcases l2.nm a (List.mem_of_getElem? ha) with z | z
              · obtain ⟨t, ht⟩ := l2.m
                have ht' : w.m = as ++ t := ht
                obtain ⟨j, hj, ej⟩ := List.getElem_of_mem z
                have hwj : w.m[j]? = some a := by rw [ht', List.getElem?_append_left hj, ← ej]; exact List.getElem?_eq_getElem hj
                obtain ⟨b1, b2⟩ := List.getElem?_eq_some_iff.mp hwj
                obtain ⟨b3, b4⟩ := List.getElem?_eq_some_iff.mp ha
                have := (List.getElem_inj ok2.nd).mp (b2.trans b4.symm)
                have hj2 : j < as.length := hj
                have hge2 : ks.length ≤ k := hge
                omega
              · exact z
            have rm := thaw_ok (m := q.m) ok2 e5 hus hd2 fun k a h1 h2 => ⟨hw k a h1 h2, ok1.not_m (hw k a h1 h2)⟩
            obtain ⟨bs, h2, h3, h4⟩ := alcM_ok rm ok3
            have l4 : Le p ⟨q.m ++ bs, w.S, w.H⟩ := alcM_le (G := gx X) (M := M) (q := ⟨q.m, w.S, w.H⟩) (l.trans l3) fun a ha => l.fresh (h4 a ha)
            exact kk ⟨q.m ++ bs, w.S, w.H⟩ _ l4 rfl h2 (.tup hT h3)
      · cases h1
    · cases h1
  · cases h1
end
end BX

set_option Elab.async false
set_option linter.all false
set_option maxRecDepth 100000
set_option maxHeartbeats 2000000
/-! BX27: calls for which lists that may change are told as they stand. -/
namespace BX
open PySem L2
mutual
/-- resolved; nothing that isn't new may be a list -/
def rsR (f : Nat → Option D) : D → Option D
  | .tup xs => (rsRs f xs).map .tup
  | .loc k => f k
  | .non => some .non
  | .bl b => some (.bl b)
  | .int i => some (.int i)
  | .str x => some (.str x)
  | _ => none
def rsRs (f : Nat → Option D) : List D → Option (List D)
  | [] => some []
  | d :: ds => (rsR f d).bind fun e => (rsRs f ds).map fun es => e :: es
end
def lkR : Nat → List MO → Nat → Option D
  | 0, _, _ => none
  | n + 1, M, k => match M[k]? with
    | some (.lst ds) => (rsRs (lkR n M) ds).map .lst
    | _ => none
/-- f(..), the lists handed in told as they stand; what comes back is data -/
def eCallR (F : Fn) (args : FA) (env : En) (M : List MO) : Option (D × List MO) := (args env M).bind fun r => (rsvs (lkp 4 r.2) r.1).bind fun ds => (F ds []).bind fun o => match o with
  | .rt d M' => (rsR (lkR 4 M') d).map fun e => (e, r.2)
  | _ => none
section
variable {G : Gx} {q w : Ps} {M M' : List MO}
/-- what doesn't change while the callee runs -/
def frzS (q : Ps) : Hp := fun a => match q.S a with
  | some o => some o
  | none => if a ∈ q.m then (match q.H a with
    | some (.lst xs) => some (.lst xs)
    | _ => none) else none
theorem frzS_lst (ok : Ok G q M) {k : Nat} {a : Addr} {xs : List V} (h1 : q.m[k]? = some a) (h2 : q.H a = some (.lst xs)) : frzS q a = some (.lst xs) := by
  have hm := List.mem_of_getElem? h1
  unfold frzS
  rw [ok.apart a hm]
  simp only [if_pos hm, h2]
theorem frzS_sub (ok : Ok G q M) : ∀ a o, frzS q a = some o → q.H a = some o := fun a o h => by
  unfold frzS at h
  split at h
  · rename_i o' e
    cases h
    exact ok.sub _ _ e
  · split at h
    · split at h
      · rename_i xs e
        cases h
        exact e
      · cases h
    · cases h
theorem frz_ok (ok : Ok G q M) : Ok G ⟨[], frzS q, q.H⟩ [] := ⟨frzS_sub ok, .nil, fun a h => (by cases h), rfl, fun k a o h _ => (by cases h)⟩
theorem lkS_ok {m' : List Addr} (ok : Ok G q M) : ∀ (n k : Nat) (a : Addr) (d : D), q.m[k]? = some a → lkp n M k = some d → Rep G.K (frzS q) m' (.ref a) d
  | 0, _, _, _, _, h => by cases h
  | n + 1, k, a, d, h1, h => by
    rw [lkp] at h
    split at h
    · rename_i ds e
      obtain ⟨es, e1, e2⟩ := map_some h
      subst e2
      obtain ⟨xs, h2, h3⟩ := ok.lst h1 e
      exact .lst (frzS_lst ok h1 h2) (rsvs_ok (p := q) (fun a o z => by unfold frzS; rw [z]) (lkS_ok ok n) h3 e1)
    · cases h
/-- what doesn't change from here on -/
def aftS (q w : Ps) : Hp := fun a => match q.S a with
  | some o => some o
  | none => match q.H a with
    | some _ => none
    | none => match w.S a with
      | some o => some o
      | none => if a ∈ w.m then w.H a else none
theorem aft_le (ok : Ok G q M) (l : Le ⟨[], frzS q, q.H⟩ w) : Le q ⟨q.m, aftS q w, w.H⟩ := by
  refine ⟨⟨[], by simp⟩, fun a o h => ?_, fun a o h1 h2 => ?_, fun a o h _ => l.fr a o h (by simp), fun a o h => l.dm a o h, fun a h => .inl h⟩
  · show aftS q w a = some o
    unfold aftS
    rw [h]
  · show aftS q w a = none
    unfold aftS
    rw [h1, h2]
theorem aft_ok (ok : Ok G q M) (l : Le ⟨[], frzS q, q.H⟩ w) (okw : Ok G w M') : Ok G ⟨q.m, aftS q w, w.H⟩ M := by
  refine ⟨fun a o h => ?_, ok.nd, fun a h => ?_, ok.len, fun k a o h1 h2 => ?_⟩
  · have h' : aftS q w a = some o := h
    show w.H a = some o
    unfold aftS at h'
    split at h'
    · rename_i o' e
      cases h'
      exact l.fr a _ (ok.sub _ _ e) (by simp)
    · split at h'
      · cases h'
      · split at h'
        · rename_i o' e
          cases h'
          exact okw.sub _ _ e
        · split at h'
          · exact h'
          · cases h'
  · show aftS q w a = none
    unfold aftS
    rw [ok.apart a h]
    cases e : q.H a with
    | none => exact absurd e (ok.m_some a h)
    | some o => rfl
  · exact MOR.mono (aft_le ok l) (fun o h => l.fr a o h (by simp)) (ok.at_ k a o h1 h2)
theorem aft_tup (ok : Ok G q M) (l : Le ⟨[], frzS q, q.H⟩ w) {a : Addr} {xs : List V} (h : w.S a = some (.tup xs)) : aftS q w a = some (.tup xs) := by
  unfold aftS
  cases e : q.S a with
  | some o =>
    have h1 : frzS q a = some o := by unfold frzS; rw [e]
    have h2 := l.sh a o h1
    rw [h] at h2
    exact h2.symm
  | none =>
    cases e2 : q.H a with
    | none => simp only [h]
    | some o =>
      exfalso
      cases e3 : frzS q a with
      | none =>
        have := l.nw a o e3 e2
        rw [h] at this; cases this
      | some o2 =>
        have h2 := l.sh a o2 e3
        rw [h] at h2
        cases h2
        unfold frzS at e3
        rw [e] at e3
        simp only at e3
        split at e3
        · split at e3
          · cases e3
          · cases e3
        · cases e3
theorem aft_new (ok : Ok G q M) (l : Le ⟨[], frzS q, q.H⟩ w) (okw : Ok G w M') {k : Nat} {a : Addr} {o : HO} (h1 : w.m[k]? = some a) (h2 : w.H a = some o) : aftS q w a = some o := by
  have hm := List.mem_of_getElem? h1
  have hH : q.H a = none := by
    rcases l.nm a hm with z | z
    · cases z
    · exact z
  unfold aftS
  rw [ok.S_none hH, hH, okw.apart a hm]
  simp only [if_pos hm, h2]
mutual
theorem rsR_ok {S' : Hp} {m' : List Addr} {f : Nat → Option D} (ht : ∀ a xs, w.S a = some (.tup xs) → S' a = some (.tup xs)) (hf : ∀ k a d, w.m[k]? = some a → f k = some d → Rep G.K S' m' (.ref a) d) :
    ∀ {x : V} {d e : D}, Rep G.K w.S w.m x d → rsR f d = some e → Rep G.K S' m' x e
  | _, _, _, .non, h => by cases h; exact .non
  | _, _, _, .bl b, h => by cases h; exact .bl b
  | _, _, _, .int i, h => by cases h; exact .int i
  | _, _, _, .str x, h => by cases h; exact .str x
  | _, _, _, .emp _, h => by cases h
  | _, _, _, .obj _ _ _, h => by cases h
  | _, _, _, .lst _ _, h => by cases h
  | _, _, _, .frz _ _, h => by cases h
  | _, _, _, .tup h1 h2, h => by
    rw [rsR] at h
    obtain ⟨es, e1, e2⟩ := map_some h
    subst e2
    exact .tup (ht _ _ h1) (rsRs_ok ht hf h2 e1)
  | _, _, _, .loc h1, h => by
    rw [rsR] at h
    exact hf _ _ _ h1 h
theorem rsRs_ok {S' : Hp} {m' : List Addr} {f : Nat → Option D} (ht : ∀ a xs, w.S a = some (.tup xs) → S' a = some (.tup xs)) (hf : ∀ k a d, w.m[k]? = some a → f k = some d → Rep G.K S' m' (.ref a) d) :
    ∀ {xs : List V} {ds es : List D}, Reps G.K w.S w.m xs ds → rsRs f ds = some es → Reps G.K S' m' xs es
  | _, _, _, .nil, h => by cases h; exact .nil
  | _, _, _, .cons h1 h2, h => by
    rw [rsRs] at h
    obtain ⟨e, e1, h⟩ := bind_some h
    obtain ⟨es, e2, h⟩ := map_some h
    subst h
    exact .cons (rsR_ok ht hf h1 e1) (rsRs_ok ht hf h2 e2)
end
theorem lkR_ok {m' : List Addr} (ok : Ok G q M) (l : Le ⟨[], frzS q, q.H⟩ w) (okw : Ok G w M') : ∀ (n k : Nat) (a : Addr) (d : D), w.m[k]? = some a → lkR n M' k = some d → Rep G.K (aftS q w) m' (.ref a) d
  | 0, _, _, _, _, h => by cases h
  | n + 1, k, a, d, h1, h => by
    rw [lkR] at h
    split at h
    · rename_i ds e
      obtain ⟨es, e1, e2⟩ := map_some h
      subst e2
      obtain ⟨xs, h2, h3⟩ := okw.lst h1 e
      exact .lst (aft_new ok l okw h1 h2) (rsRs_ok (fun a xs => aft_tup ok l) (lkR_ok ok l okw n) h3 e1)
    · cases h
theorem ev_callR {ta : TA} {E : XK} {fs : FA} {F : Fn} {np : Nat} {cls : Nat → Value} (h : EvA G ta fs) (hn : ∀ env M ds M', fs env M = some (ds, M') → ds.length = np) : Ev G (tCall (spF G cls np F) [] E ta) (eCallR F fs) := by
  intro p env M σ d N ok er h1 Q kk
  obtain ⟨⟨ds, M1⟩, e1, h1⟩ := bind_some h1
  obtain ⟨ds', e2, h1⟩ := bind_some h1
  obtain ⟨o, e4, h1⟩ := bind_some h1
  split at h1
  · rename_i d1 M'
    obtain ⟨d2, e5, h1⟩ := map_some h1
    cases h1
    refine h p env M σ ds _ ok er e1 _ fun q xs l m ok1 r => ?_
    have ra : Reps G.K (frzS q) [] xs ds' := rsvs_ok (p := q) (fun a o z => by unfold frzS; rw [z]) (lkS_ok ok1 4) r e2
    refine ⟨⟨[], frzS q, q.H⟩, [], ds', .rt d1 M', ?_, rfl, frz_ok ok1, by rw [List.append_nil]; exact ra, e4, fun w y l2 ok2 ry => ?_⟩
    · rw [List.append_nil, r.length]
      exact hn _ _ _ _ e1
    · exact kk ⟨q.m, aftS q w, w.H⟩ y (l.trans (aft_le ok1 l2)) rfl (aft_ok ok1 l2 ok2) (rsR_ok (fun a xs => aft_tup ok1 l2) (lkR_ok ok1 l2 ok2 4) ry e5)
  · cases h1
end
section
variable {X : Cx} {e : Expr} {es : List Expr} {pos : Pos} {fs : FA} {x : Str} {k : Nat} {ps : List Str} {F : Fn} {cls : Nat → Value}
theorem se_callR {q : Pos} {n : Nat} (c : Cal X.prog X.w X.K X.mg X.base k x ps (spF (gx X) cls n F)) (ha : SAn X (e :: es) fs n) (hr : Room k X.A) (hg : Gl X x) (hdb : (x == ("__debug__" : Str)) = false := by decide)
    (he : starEach (e :: es) X.env = (false, eval e X.env) :: starEach es X.env := by rfl) (hpl : (backTo pos (starEach es X.env)).any (·.1) = false := by rfl) : SE X (.Call (.Name x q) (e :: es) [] pos) (eCallR F fs) := by
  obtain ⟨t, pt, vt⟩ := ha.a.ex
  obtain ⟨f, fd, F1, hm, hk, hb⟩ := c.ex
  exact ⟨_, pe_call F1 hr hg hm hk hb .nil pass0 pt hdb he hpl, ev_callR vt ha.n⟩
end
end BX

set_option Elab.async false
set_option linter.all false
set_option maxRecDepth 100000
set_option maxHeartbeats 2000000
/-! BX28: walking enumerate of a list that may change. -/
namespace BX
open PySem L2
section
variable {X : Cx} {W : Nat → Hp → Prop} {a : Expr} {pos q tpos : Pos} {elts : List Expr} {kk : Nat}
def forKE (pt : Pat) (body : FS) (k : Nat) : Nat → Nat → En → List MO → Option Out
  | 0, _, _, _ => none
  | n + 1, i, env, M => match M[k]? with
    | some (.lst ds) => match ds[i]? with
      | none => some (.nx env M)
      | some d => (bindP pt (.tup [.int (i : Nat), d]) env).bind fun e1 => (body e1 M).bind fun o => match o with
        | .nx e m => forKE pt body k n (i + 1) e m
        | .ct e m => forKE pt body k n (i + 1) e m
        | .bk e m => some (.nx e m)
        | o => some o
    | _ => none
def fForKE (src : FE) (pt : Pat) (body : FS) (env : En) (M : List MO) : Option Out := (src env M).bind fun r => (lcs r.1).bind fun k => forKE pt body k fuelK 0 env r.2
theorem ss_forKE {sts : List Stmt} {f : FS} {src : FE} {pt : Pat} (hp : PassesOwn (model X.prog X.w) X.A X.env X.xe) (hc : X.calm = true) (hgl : Gl X "enumerate") (hi : SE X a src) (hg : SG X (.Tuple elts kk tpos) pt) (hb : SB X W sts f) {p1 p2 p3 : Pos} (hm : X.mg "enumerate" = none)
    (hs : starEach [a] X.env = [(false, eval a X.env)] := by rfl) (hs' : starEach [a] X.env = (false, eval a X.env) :: starEach [] X.env := by rfl) (hfs : ∀ x, foldedSetIterable (.Call (.Name "enumerate" p1) [a] [] p2) X.env x = pure x := by intro _; rfl) :
    SS X W (.For (.Tuple elts kk tpos) (.Call (.Name "enumerate" p1) [a] [] p2) sts [] p3) (fForKE src pt f) := by
  obtain ⟨ti, pi, vi⟩ := hi.ex
  obtain ⟨g, pg, vg⟩ := hg.ex
  obtain ⟨tb, pb, vb⟩ := hb.ex
  refine ⟨_, ps_for hp hc (pi_enum hgl hm (pa_cons pi pa_nil hs') hs) pg pb hfs, fun p env M σ o ok er h D k => ?_⟩
  obtain ⟨⟨d0, M1⟩, e1, h⟩ := bind_some h
  obtain ⟨j, e2, h⟩ := bind_some h
  refine vi p env M σ d0 M1 ok er e1 _ fun q x l m ok1 rx0 => ?_
  cases rx0 with
  | @loc a _ hk =>
    cases e2
    have hM0 : ∃ ds, M1[j]? = some (.lst ds) := by
      rw [fuelK_eq, forKE] at h
      split at h
      · exact ⟨_, by assumption⟩
      · cases h
    obtain ⟨ds0, hM0⟩ := hM0
    obtain ⟨xs0, hx0, _⟩ := ok1.lst hk hM0
    refine ⟨a, xs0, rfl, SqL.of hx0, ?_⟩
    refine ⟨fun i n σ H => ∃ (r : Ps) (en : En) (Mi : List MO), Le q r ∧ r.H = H ∧ Ok (gx X) r Mi ∧ EnvR (gx X) r en σ ∧ forKE pt f j n i en Mi = some o,
      ⟨fuelK, q, env, M1, .refl q, rfl, ok1, er.mono l, h⟩, ?_⟩
    rintro i n σ1 H1 ⟨r, en, Mi, lr, rfl, okr, err, hf⟩
    cases n with
    | zero => cases hf
    | succ n =>
      rw [forKE] at hf
      have hkr : r.m[j]? = some a := lr.mget hk
      split at hf
      · rename_i ds hMi
        obtain ⟨xs, hxs, rxs⟩ := okr.lst hkr hMi
        split at hf
        · rename_i hnone
          cases hf
          refine .inl ⟨⟨xs, SqL.of hxs, ?_⟩, k r σ1 (l.trans lr) okr err⟩
          rw [rxs.length]
          exact List.getElem?_eq_none_iff.mp hnone
        · rename_i d hds
          obtain ⟨x, hx, rx⟩ := rxs.get hds
          refine .inr ⟨⟨xs, x, SqL.of hxs, hx⟩, fun σ' H' => ∃ (r : Ps) (en : En) (Mi : List MO), Le q r ∧ r.H = H' ∧ Ok (gx X) r Mi ∧ EnvR (gx X) r en σ' ∧ forKE pt f j n (i + 1) en Mi = some o, fun σ' H' z => ?_, fun x1 H' y => ?_⟩
          · obtain ⟨r, en, Mi, z⟩ := z
            exact ⟨n, Nat.lt_succ_self n, r, en, Mi, z⟩
          · obtain ⟨T, x2, rfl, hT, rfl, y⟩ := y
            have hy := y xs (SqL.of hxs)
            rw [hx] at hy
            cases hy
            obtain ⟨en1, e3, hf⟩ := bind_some hf
            obtain ⟨o1, e4, hf⟩ := bind_some hf
            have lT : Le r (r.shd T (.tup [.int (i : Nat), x])) := Le.shd hT (okr.S_none hT)
            have okT : Ok (gx X) (r.shd T (.tup [.int (i : Nat), x])) Mi := okr.shd hT
            have rT : Rep (gx X).K (r.shd T (.tup [.int (i : Nat), x])).S (r.shd T (.tup [.int (i : Nat), x])).m (.ref T) (.tup [.int (i : Nat), d]) := .tup upd_same (.cons (.int _) (.cons (lT.rep rx) .nil))
            refine vg _ Mi _ _ en en1 σ1 okT (err.mono lT) rT e3 _ fun σ' er2 _ => ?_
            refine vb _ en1 Mi σ' o1 okT er2 e4 _ ?_
            cases o1 with
            | nx e M => exact fun w σ2 l2 ok3 er3 => ⟨w, e, M, lr.trans (lT.trans l2), rfl, ok3, er3, hf⟩
            | ct e M => exact fun w σ2 l2 ok3 er3 => ⟨w, e, M, lr.trans (lT.trans l2), rfl, ok3, er3, hf⟩
            | bk e M =>
              cases hf
              exact fun w σ2 l2 ok3 er3 => k w σ2 (l.trans (lr.trans (lT.trans l2))) ok3 er3
            | rt d M =>
              cases hf
              exact fun w x l2 ok3 er3 => k w x (l.trans (lr.trans (lT.trans l2))) ok3 er3
            | ex c =>
              cases hf
              exact fun w l2 => k w (l.trans (lr.trans (lT.trans l2)))
      · cases hf
  | _ => cases e2
end
end BX

set_option Elab.async false
set_option linter.all false
set_option maxRecDepth 100000
set_option maxHeartbeats 2000000
/-! BX29: objects of own classes with one field, a new list. -/
namespace BX
open PySem L2
section
variable {G : Gx} {q w : Ps} {M M' : List MO}
theorem frz_lst {a : Addr} {o : HO} (h : frzS q a = some o) (hS : q.S a = none) : ∃ xs, o = .lst xs := by
  unfold frzS at h
  rw [hS] at h
  simp only at h
  split at h
  · split at h
    · cases h
      exact ⟨_, rfl⟩
    · cases h
  · cases h
/-- what isn't a list and stays in the callee stays in the caller -/
theorem aft_keep {H0 : Hp} (hH : ∀ a o, q.H a = some o → ∃ o', H0 a = some o') (l : Le ⟨[], frzS q, H0⟩ w) {a : Addr} {o : HO} (h : w.S a = some o) (hn : ∀ xs, o ≠ .lst xs) : aftS q w a = some o := by
  unfold aftS
  cases e : q.S a with
  | some u =>
    have h1 : frzS q a = some u := by unfold frzS; rw [e]
    have h2 := l.sh a u h1
    rw [h] at h2
    exact h2.symm
  | none =>
    cases e2 : q.H a with
    | none => simp only [h]
    | some u =>
      exfalso
      obtain ⟨u', e2'⟩ := hH a u e2
      cases e3 : frzS q a with
      | none =>
        have := l.nw a u' e3 e2'
        rw [h] at this; cases this
      | some o2 =>
        have h2 := l.sh a o2 e3
        rw [h] at h2
        cases h2
        obtain ⟨xs, e4⟩ := frz_lst e3 e
        exact hn xs e4
theorem callR_core {np : Nat} {F : Fn} {cls : Nat → Value} {xs : List V} {ds ds' : List D} {d1 d2 : D} (ok1 : Ok G q M) (r : Reps G.K q.S q.m xs ds) (e2 : rsvs (lkp 4 M) ds = some ds') (e4 : F ds' [] = some (.rt d1 M')) (hn : xs.length = np) (e5 : rsR (lkR 4 M') d1 = some d2)
    {Q : VK} {E : XK} (kk : ∀ (u : Ps) (y : V), Le q u → Ok G u M → Rep G.K u.S u.m y d2 → Q y u.H) : spF G cls np F xs q.H Q E := by
  have ra : Reps G.K (frzS q) [] xs ds' := rsvs_ok (p := q) (fun a o z => by unfold frzS; rw [z]) (lkS_ok ok1 4) r e2
  refine ⟨⟨[], frzS q, q.H⟩, [], ds', .rt d1 M', hn, rfl, frz_ok ok1, ra, e4, fun w y l2 ok2 ry => ?_⟩
  exact kk ⟨q.m, aftS q w, w.H⟩ y (aft_le ok1 l2) (aft_ok ok1 l2 ok2) (rsR_ok (fun a xs => aft_tup ok1 l2) (lkR_ok ok1 l2 ok2 4) ry e5)
end

/-! ### o.f -/
def eFld (cs : List Str) (f : Str) (a : FE) (env : En) (M : List MO) : Option (D × List MO) := (a env M).bind fun r => match r.1 with
  | .obj (.ins x fs) ds => if cs.contains x = true then ((fs.zip ds).lookup f).map fun d => (d, r.2) else none
  | _ => none
/-- a class as it is read -/
def ClsR (K : PySem.W.Frag) (x f : Str) : Prop := ∃ C, PySem.W.nsIn K mainGlobals x = some (some (.ref C)) ∧ Cls K C ∧ NoAttr K C f
theorem zip_at {K : PySem.W.Frag} {S : Hp} {m : List Addr} {f : Str} {d : D} : ∀ {fs : List Str} {xs : List V} {ds : List D}, Reps K S m xs ds → (fs.zip ds).lookup f = some d → ∃ v, (fs.zip xs).lookup f = some v ∧ Rep K S m v d
  | [], _, _, _, h => by simp at h
  | _ :: _, _, _, .nil, h => by simp at h
  | g :: fs, _, _, .cons (v := v) (d := d1) h1 h2, h => by
    rw [List.zip_cons_cons, List.lookup_cons] at h
    rw [List.zip_cons_cons, List.lookup_cons]
    cases e : f == g with
    | true =>
      rw [e] at h
      cases h
      exact ⟨v, rfl, h1⟩
    | false =>
      rw [e] at h
      exact zip_at h2 h
section
variable {X : Cx} {W : Nat → Hp → Prop} {e o : Expr} {es : List Expr} {pos apos : Pos} {fa : FE} {fs : FA} {fm : FM}
theorem se_fld {f : Str} (cs : List Str) (hc : ∀ x ∈ cs, ClsR X.K x f) (ha : SE X o fa) (hb : attributeBase o f X.env (eval o X.env) = eval o X.env := by rfl) : SE X (.Attribute o f pos) (eFld cs f fa) := by
  obtain ⟨ta, pa, va⟩ := ha.ex
  refine ⟨_, pe_fld pa hb, fun p env M σ d M' ok er h Q k => ?_⟩
  obtain ⟨⟨d1, M1⟩, e1, h⟩ := bind_some h
  refine va p env M σ d1 M1 ok er e1 _ fun q x l m ok1 rx => ?_
  cases d1 with
  | obj t ds =>
    cases t with
    | ins x1 fn =>
      simp only at h
      split at h
      · rename_i hx
        obtain ⟨d2, e2, h⟩ := map_some h
        cases h
        cases rx with
        | @obj a _ xs _ ob h1 h2 h3 =>
          obtain ⟨C, dx, rfl, hl, hn⟩ := h2
          obtain ⟨C', n1, n2, n3⟩ := hc x1 (by simpa using hx)
          rw [hn] at n1
          cases n1
          obtain ⟨v, e3, e4⟩ := zip_at h3 e2
          exact ⟨a, C, dx, _, v, rfl, ok1.sub _ _ h1, n2, n3, e3, k q v l m ok1 e4⟩
      · cases h
    | fn i => cases h
  | _ => cases h

/-! ### a tuple with new lists, as an item of a list -/
def eTupM (fm : FM) (env : En) (M : List MO) : Option (D × List MO) := (fm env M).bind fun r => let s := alcM r.1 r.2; if lim s.1.length = true then some (.tup s.1, s.2) else none
theorem se_tupM {k2 : Nat} (ha : SM X es fm) : SE X (.Tuple es k2 pos) (eTupM fm) := by
  obtain ⟨t, pt, vt⟩ := ha.ex
  refine ⟨_, pe_tup pt, fun p env M σ d M' ok er h Q k => ?_⟩
  obtain ⟨⟨ms, M1⟩, e1, h⟩ := bind_some h
  simp only at h
  split at h
  · rename_i hl2
    cases h
    refine vt p env M σ ms M1 ok er e1 _ fun q xs l m ok1 r => ?_
    obtain ⟨as, h2, h3, h4⟩ := alcM_ok r ok1
    have l2 := alcM_le (G := gx X) (M := M) l h4
    refine ⟨by rw [h3.length]; exact lim_line hl2, fun T hT => ?_⟩
    have okT : Ok (gx X) (Ps.shd ⟨q.m ++ as, q.S, q.H⟩ T (.tup xs)) _ := h2.shd hT
    have lT : Le ⟨q.m ++ as, q.S, q.H⟩ (Ps.shd ⟨q.m ++ as, q.S, q.H⟩ T (.tup xs)) := Le.shd hT (h2.S_none hT)
    exact k _ (.ref T) (l2.trans lT) rfl okT (.tup upd_same (lT.reps h3))
  · cases h

/-! ### isinstance with an own class -/
def eIsiO (tb : List (Str × Bool)) (a : FE) (env : En) (M : List MO) : Option (D × List MO) := (a env M).bind fun r => match r.1 with
  | .obj (.ins x _) _ => (tb.lookup x).map fun b => (.bl b, r.2)
  | _ => none
/-- the class x as isinstance reads it; y: the class asked -/
def ClsI (K : PySem.W.Frag) (C' : Addr) (x : Str) (b : Bool) : Prop := ∃ C, PySem.W.nsIn K mainGlobals x = some (some (.ref C)) ∧ Cls K C ∧
  PySem.W.findIn K (.ref C) "__class__" = some (some (.builtin "object.__class__")) ∧ PySem.W.specialIn K (.builtin "object.__class__") "__get__" = some (some (.builtin "getset_descriptor.__get__")) ∧
  PySem.W.takesIn K (.builtin "object.__class__") = some true ∧ PySem.W.mroIn K C (.type "object") = some true ∧ PySem.W.kitOne K (.ref C) (.ref C') = some b
theorem lookup_mem {β : Type} {x : Str} {b : β} : ∀ {tb : List (Str × β)}, tb.lookup x = some b → (x, b) ∈ tb
  | [], h => by simp at h
  | (y, c) :: tb, h => by
    rw [List.lookup_cons] at h
    cases e : x == y with
    | true =>
      rw [e] at h
      cases h
      rw [eq_of_beq e]
      exact List.mem_cons_self
    | false =>
      rw [e] at h
      exact List.mem_cons_of_mem _ (lookup_mem h)
theorem se_isiO {q q2 : Pos} {x : Str} (tb : List (Str × Bool)) (ha : SE X e fa) (hm : X.mg "isinstance" = none) (hx : ∃ C', X.mg x = some (.ref C') ∧ ∀ z ∈ tb, ClsI X.K C' z.1 z.2) (hg : Gl X "isinstance" := by rfl) (hg2 : Gl X x := by rfl)
    (hd2 : (x == ("__debug__" : Str)) = false := by decide)
    (he : starEach [e, .Name x q2] X.env = (false, eval e X.env) :: starEach [.Name x q2] X.env := by rfl) (he2 : starEach [.Name x q2] X.env = (false, eval (.Name x q2) X.env) :: starEach [] X.env := by rfl) (hpl : (backTo pos (starEach [.Name x q2] X.env)).any (·.1) = false := by rfl) :
    SE X (.Call (.Name "isinstance" q) [e, .Name x q2] [] pos) (eIsiO tb fa) := by
  obtain ⟨ta, pa, va⟩ := ha.ex
  obtain ⟨C', hm2, hc⟩ := hx
  refine ⟨_, pe_callB call_isi hg hm (by decide +kernel) (pa_cons pa (pa_cons (pe_glob (v := .ref C') hg2 hm2 rfl hd2) pa_nil he2) he) (by decide) (by decide) he hpl, fun p env M σ d M' ok er h Q k => ?_⟩
  obtain ⟨⟨d1, M1⟩, e1, h⟩ := bind_some h
  refine va p env M σ d1 M1 ok er e1 _ fun q x l m ok1 rx => ?_
  cases d1 with
  | obj t ds =>
    cases t with
    | ins x1 fn =>
      obtain ⟨b, e2, h⟩ := map_some h
      cases h
      cases rx with
      | @obj a _ xs _ ob h1 h2 h3 =>
        obtain ⟨C, dx, rfl, hl, hn⟩ := h2
        obtain ⟨C1, n1, n2, n3, n4, n5, n6, n7⟩ := hc _ (lookup_mem e2)
        have n1' : PySem.W.nsIn X.K mainGlobals x1 = some (some (.ref C1)) := n1
        rw [hn] at n1'
        cases n1'
        exact ⟨.ref a, .ref C', .ref C, .ref C', b, rfl, .own C', .base (.ins (ok1.sub _ _ h1) n2 n3 n4 n5 n6), n7, k q _ l m ok1 (.bl b)⟩
    | fn i => cases h
  | _ => cases h
end

/-! ### methods -/
/-- what a caller knows of a method m of class x -/
structure MCal (P : Program) (w : World) (K : PySem.W.Frag) (mg : Str → Option Value) (base : Heap) (k : Nat) (x m : Str) (ps : List Str) (sp : Sp) : Prop where
  ex : ∃ (C f : Addr) (fd : FuncData), FnOk P w K mg base CX0 k f fd ps sp ∧ PySem.W.nsIn K mainGlobals x = some (some (.ref C)) ∧ Meth K C m f ∧ Cls K C ∧ Binds K fd ps []
def eMeth (tb : List (Str × Fn)) (m : Str) (a : FE) (args : FA) (env : En) (M : List MO) : Option (D × List MO) := (a env M).bind fun r => match r.1 with
  | .obj (.ins x fs) ds => if fs.contains m = true then none else (tb.lookup x).bind fun F => (args env r.2).bind fun s => (rsvs (lkp 4 s.2) (r.1 :: s.1)).bind fun es => (F es []).bind fun o => match o with
    | .rt d M' => (rsR (lkR 4 M') d).map fun e => (e, s.2)
    | _ => none
  | _ => none
theorem zip_none {f : Str} : ∀ {fs : List Str} {xs : List V}, f ∉ fs → (fs.zip xs).lookup f = none
  | [], _, _ => rfl
  | _ :: _, [], _ => rfl
  | g :: fs, x :: xs, h => by
    rw [List.zip_cons_cons, List.lookup_cons]
    rw [List.mem_cons, not_or] at h
    have e : (f == g) = false := by simpa using h.1
    rw [e]
    exact zip_none h.2
section
variable {X : Cx} {W : Nat → Hp → Prop} {e o : Expr} {es : List Expr} {pos apos : Pos} {fa : FE} {fs : FA} {fm : FM} {ps : List Str} {k n : Nat} {cls : Nat → Value}
theorem se_meth {m : Str} {pl : Sem Bool} (tb : List (Str × Fn)) (hc : ∀ z ∈ tb, MCal X.prog X.w X.K X.mg X.base k z.1 m ps (spF (gx X) cls (n + 1) z.2)) (ho : SE X o fa) (ha : SAn X (e :: es) fs n) (hr : Room k X.A)
    (he : starEach (e :: es) X.env = (false, eval e X.env) :: starEach es X.env := by rfl) (hpl : (backTo pos (starEach es X.env)).any (·.1) = false := by rfl)
    (hm : eval (.Call (.Attribute o m apos) (e :: es) [] pos) X.env = (do
      let ov ← eval o X.env
      standAt apos.atName
      match ← holding [ov] (getMethod ov m pl) with
      | (f, first) => callWith pos f first (backTo pos (starEach (e :: es) X.env)) (backToKw pos (keywordEach [] X.env))) := by rfl) :
    SE X (.Call (.Attribute o m apos) (e :: es) [] pos) (eMeth tb m fa fs) := by
  obtain ⟨to, po, vo⟩ := ho.ex
  obtain ⟨ta, pa, va⟩ := ha.a.ex
  refine ⟨fun σ H Q => ∃ (z : Str × Fn) (hz : z ∈ tb), tMeth (hc z hz).ex.choose m (spF (gx X) cls (n + 1) z.2) [] (fun _ _ _ => False) to ta σ H Q, ⟨fun pins s σ H Q I h => ?_⟩, fun p env M σ d M' ok er h Q kk => ?_⟩
  · obtain ⟨z, hz, h⟩ := h
    obtain ⟨f, fd, F1, hn, hM, hC, hb⟩ := (hc z hz).ex.choose_spec
    exact (pe_meth po hC hM F1 hr hb .nil pass0 pa he hpl hm).run pins s σ H Q I h
  · obtain ⟨⟨d1, M1⟩, e1, h⟩ := bind_some h
    simp only at h
    cases d1 with
    | obj t ds =>
      cases t with
      | ins x1 fn =>
        simp only at h
        split at h
        · cases h
        · rename_i hf
          obtain ⟨F, e2, h⟩ := bind_some h
          obtain ⟨⟨es1, M2⟩, e3, h⟩ := bind_some h
          obtain ⟨es2, e4, h⟩ := bind_some h
          obtain ⟨oc, e5, h⟩ := bind_some h
          split at h
          · rename_i d3 M3
            obtain ⟨d4, e6, h⟩ := map_some h
            cases h
            refine ⟨(x1, F), lookup_mem e2, ?_⟩
            obtain ⟨f, fd, F1, hn, hM, hC, hb⟩ := (hc (x1, F) (lookup_mem e2)).ex.choose_spec
            refine vo p env M σ _ _ ok er e1 _ fun q x l m ok1 rx => ?_
            have rx0 := rx
            cases rx with
            | @obj a _ xs _ ob h1 h2 h3 =>
              obtain ⟨C, dx, rfl, hl, hn2⟩ := h2
              have hn' : PySem.W.nsIn X.K mainGlobals x1 = some (some (.ref _)) := hn
              have hC2 : C = (hc (x1, F) (lookup_mem e2)).ex.choose := by
                have := hn2.symm.trans hn'
                simpa using this
              refine ⟨a, dx, _, rfl, by rw [← hC2]; exact ok1.sub _ _ h1, zip_none (by simpa using hf), ?_⟩
              refine va q env M1 σ es1 M2 ok1 (er.mono l) e3 _ fun q2 vs l2 m2 ok2 rvs => ?_
              rw [List.append_nil]
              refine callR_core ok2 (.cons (l2.rep rx0) rvs) e4 e5 ?_ e6 fun u y l3 ok3 ry => kk u y ((l.trans l2).trans l3) rfl ok3 ry
              rw [List.length_cons, rvs.length, ha.n _ _ _ _ e3]
          · cases h
      | fn i => cases h
    | _ => cases h
end
end BX

set_option Elab.async false
set_option linter.all false
set_option maxRecDepth 100000
set_option maxHeartbeats 2000000
/-! BX30: objects made, handed back; dicts handed back. -/
namespace BX
open PySem L2
open PyProof.Rows (envOfC)
/-! ### new things, behind the caller's own -/
mutual
def shA (n : Nat) : D → Option D
  | .tup xs => (shAs n xs).map .tup
  | .loc k => some (.loc (n + k))
  | .non => some .non
  | .bl b => some (.bl b)
  | .int i => some (.int i)
  | .str x => some (.str x)
  | _ => none
def shAs (n : Nat) : List D → Option (List D)
  | [] => some []
  | d :: ds => (shA n d).bind fun e => (shAs n ds).map fun es => e :: es
end
def shM (n : Nat) : List MO → Option (List MO)
  | [] => some []
  | .lst ds :: r => (shAs n ds).bind fun es => (shM n r).map fun os => .lst es :: os
  | _ :: _ => none
section
variable {K : PySem.W.Frag} {S S' : Hp} {m m' pre : List Addr} {n : Nat}
mutual
theorem shA_ok (hn : pre.length = n) (ht : ∀ a xs, S a = some (.tup xs) → S' a = some (.tup xs)) : ∀ {x : V} {d e : D}, Rep K S m x d → shA n d = some e → Rep K S' (pre ++ m) x e
  | _, _, _, .non, h => by cases h; exact .non
  | _, _, _, .bl b, h => by cases h; exact .bl b
  | _, _, _, .int i, h => by cases h; exact .int i
  | _, _, _, .str x, h => by cases h; exact .str x
  | _, _, _, .emp _, h => by cases h
  | _, _, _, .lst _ _, h => by cases h
  | _, _, _, .frz _ _, h => by cases h
  | _, _, _, .obj _ _ _, h => by cases h
  | _, _, _, .tup h1 h2, h => by
    rw [shA] at h
    obtain ⟨es, e1, e2⟩ := map_some h
    subst e2
    exact .tup (ht _ _ h1) (shAs_ok hn ht h2 e1)
  | _, _, _, .loc h1, h => by
    cases h
    refine .loc ?_
    rw [List.getElem?_append_right (by omega), show ∀ k, n + k - pre.length = k by omega]
    exact h1
theorem shAs_ok (hn : pre.length = n) (ht : ∀ a xs, S a = some (.tup xs) → S' a = some (.tup xs)) : ∀ {xs : List V} {ds es : List D}, Reps K S m xs ds → shAs n ds = some es → Reps K S' (pre ++ m) xs es
  | _, _, _, .nil, h => by cases h; exact .nil
  | _, _, _, .cons h1 h2, h => by
    rw [shAs] at h
    obtain ⟨e, e1, h⟩ := bind_some h
    obtain ⟨es, e2, h⟩ := map_some h
    subst h
    exact .cons (shA_ok hn ht h1 e1) (shAs_ok hn ht h2 e2)
end
end
theorem shM_at {n : Nat} : ∀ {M L : List MO}, shM n M = some L → L.length = M.length ∧ ∀ (k : Nat) o, L[k]? = some o → ∃ ds es, M[k]? = some (.lst ds) ∧ o = .lst es ∧ shAs n ds = some es
  | [], L, h => by cases h; exact ⟨rfl, fun k o e => by simp at e⟩
  | .lst ds :: r, L, h => by
    rw [shM] at h
    obtain ⟨es, e1, h⟩ := bind_some h
    obtain ⟨os, e2, h⟩ := map_some h
    subst h
    obtain ⟨l1, l2⟩ := shM_at e2
    refine ⟨by simp [l1], fun k o e => ?_⟩
    cases k with
    | zero => cases e; exact ⟨ds, es, rfl, rfl, e1⟩
    | succ k => exact l2 k o (by simpa using e)
  | .dct _ :: _, L, h => by cases h
  | .ins _ _ :: _, L, h => by cases h

/-! ### X(e), by def __init__(self, f): self.f = g(f) -/
def spI (G : Gx) (cls : Nat → Value) (fld : Str) (F : Fn) : Sp := fun vs H Q E => ∃ (a C dx : Addr) (v : V), vs = [.ref a, v] ∧ H a = some (.ins C dx []) ∧ Cls G.K C ∧ NoAttr G.K C fld ∧
  spF G cls 1 F [v] H (fun y H1 => H1 a = some (.ins C dx []) ∧ Q .non (upd H1 a (.ins C dx [(fld, y)]))) E
/-- what a caller knows of the making of an x -/
structure ICal (P : Program) (w : World) (K : PySem.W.Frag) (mg : Str → Option Value) (base : Heap) (k : Nat) (x fld : Str) (ps : List Str) (sp : Sp) : Prop where
  ex : ∃ (C f : Addr) (fd : FuncData), FnOk P w K mg base CX0 k f fd ps sp ∧ mg x = some (.ref C) ∧ PySem.W.nsIn K mainGlobals x = some (some (.ref C)) ∧ Mk K C f ∧ Cls K C ∧ NoAttr K C fld ∧ Binds K fd ps []
def eMake (x fld : Str) (F : Fn) (a : FE) (env : En) (M : List MO) : Option (D × List MO) := (a env M).bind fun r => (rsvs (lkp 4 r.2) [r.1]).bind fun ds => (F ds []).bind fun o => match o with
  | .rt (.loc k) M' => (shM r.2.length M').map fun L => (.obj (.ins x [fld]) [.loc (r.2.length + k)], r.2 ++ L)
  | _ => none
section
variable {G : Gx} {q w : Ps} {M M' : List MO}
def makS (q w : Ps) (a : Addr) (o : HO) : Hp := fun b => if b = a then some o else match q.S b with
  | some o => some o
  | none => match q.H b with
    | some _ => none
    | none => w.S b
theorem mak_ok {H0 : Hp} {a dx C : Addr} {u : V} {fld : Str} {L : List MO} (ok : Ok G q M) (ha : q.H a = none) (hd : q.H dx = none) (hne : dx ≠ a) (e0 : H0 = upd (upd q.H dx (.own a)) a (.ins C dx [])) (l : Le ⟨[], frzS q, H0⟩ w) (okw : Ok G w M') (hL : shM M.length M' = some L) :
    Le q ⟨q.m ++ w.m, makS q w a (.ins C dx [(fld, u)]), upd w.H a (.ins C dx [(fld, u)])⟩ ∧ Ok G ⟨q.m ++ w.m, makS q w a (.ins C dx [(fld, u)]), upd w.H a (.ins C dx [(fld, u)])⟩ (M ++ L) ∧
    (∀ b xs, w.S b = some (.tup xs) → makS q w a (.ins C dx [(fld, u)]) b = some (.tup xs)) := by
  have hH : ∀ b o, q.H b = some o → H0 b = some o := fun b o h => by
    have h1 : b ≠ a := fun e => by rw [e, ha] at h; cases h
    have h2 : b ≠ dx := fun e => by rw [e, hd] at h; cases h
    rw [e0, upd_ne h1, upd_ne h2]
    exact h
  have hHa : H0 a = some (.ins C dx []) := by rw [e0, upd_same]
  have fS : frzS q a = none := by
    cases e : frzS q a with
    | none => rfl
    | some o =>
      have := frzS_sub ok a o e
      rw [ha] at this; cases this
  have wSa : w.S a = none := l.nw a _ fS hHa
  have qSa : q.S a = none := ok.S_none ha
  have wm : ∀ b, b ∈ w.m → q.H b = none ∧ b ≠ a := fun b hb => by
    have h1 : H0 b = none := by
      rcases l.nm b hb with z | z
      · cases z
      · exact z
    refine ⟨?_, fun e => by rw [e, hHa] at h1; cases h1⟩
    cases e : q.H b with
    | none => rfl
    | some o => rw [hH b o e] at h1; cases h1
  have wH : ∀ b o, q.H b = some o → w.H b = some o := fun b o h => l.fr b o (hH b o h) (by simp)
  have na : ∀ b o, q.H b = some o → b ≠ a := fun b o h e => by rw [e, ha] at h; cases h
  have tupS : ∀ b xs, w.S b = some (.tup xs) → makS q w a (.ins C dx [(fld, u)]) b = some (.tup xs) := fun b xs h => by
    have h1 : b ≠ a := fun e => by rw [e, wSa] at h; cases h
    have h2 := aft_keep (q := q) (H0 := H0) (fun b o z => ⟨o, hH b o z⟩) l h (fun ys z => by cases z)
    unfold makS
    rw [if_neg h1]
    unfold aftS at h2
    cases e : q.S b with
    | some o => rw [e] at h2; exact h2
    | none =>
      rw [e] at h2
      cases e2 : q.H b with
      | some o => rw [e2] at h2; cases h2
      | none => exact h
  have leq : Le q ⟨q.m ++ w.m, makS q w a (.ins C dx [(fld, u)]), upd w.H a (.ins C dx [(fld, u)])⟩ := by
    refine ⟨⟨w.m, rfl⟩, fun b o h => ?_, fun b o h1 h2 => ?_, fun b o h _ => ?_, fun b o h => ?_, fun b h => ?_⟩
    · show makS q w a _ b = some o
      unfold makS
      rw [if_neg (na b o (ok.sub _ _ h)), h]
    · show makS q w a _ b = none
      unfold makS
      rw [if_neg (na b o h2), h1, h2]
    · show upd w.H a _ b = some o
      rw [upd_ne (na b o h)]
      exact wH b o h
    · refine ⟨o, ?_⟩
      show upd w.H a _ b = some o
      rw [upd_ne (na b o h)]
      exact wH b o h
    · have h' : b ∈ q.m ++ w.m := h
      rcases List.mem_append.mp h' with z | z
      · exact .inl z
      · exact .inr (wm b z).1
  obtain ⟨L1, L2⟩ := shM_at hL
  refine ⟨leq, ⟨fun b o h => ?_, ?_, fun b h => ?_, ?_, fun k b o e1 e2 => ?_⟩, tupS⟩
  · have h' : makS q w a (.ins C dx [(fld, u)]) b = some o := h
    show upd w.H a _ b = some o
    unfold makS at h'
    split at h'
    · rename_i e
      cases h'
      rw [e, upd_same]
    · rename_i e
      rw [upd_ne e]
      split at h'
      · rename_i o' e2
        cases h'
        exact wH _ _ (ok.sub _ _ e2)
      · split at h'
        · cases h'
        · exact okw.sub _ _ h'
  · show (q.m ++ w.m).Nodup
    rw [List.nodup_append]
    refine ⟨ok.nd, okw.nd, fun x hx y hy e => ?_⟩
    subst e
    exact ok.m_some x hx (wm x hy).1
  · have h' : b ∈ q.m ++ w.m := h
    show makS q w a _ b = none
    unfold makS
    rcases List.mem_append.mp h' with z | z
    · cases e : q.H b with
      | none => exact absurd e (ok.m_some b z)
      | some o =>
        rw [if_neg (na b o e), ok.apart b z]
    · obtain ⟨z1, z2⟩ := wm b z
      rw [if_neg z2, ok.S_none z1, z1]
      exact okw.apart b z
  · show (q.m ++ w.m).length = (M ++ L).length
    rw [List.length_append, List.length_append, ok.len, okw.len, L1]
  · have e1' : (q.m ++ w.m)[k]? = some b := e1
    by_cases hk : k < q.m.length
    · rw [List.getElem?_append_left hk] at e1'
      rw [List.getElem?_append_left (by rw [← ok.len]; exact hk)] at e2
      exact MOR.mono leq (fun o h => by
        show upd w.H a _ b = some o
        rw [upd_ne (na b o h)]
        exact wH b o h) (ok.at_ k b o e1' e2)
    · rw [List.getElem?_append_right (Nat.le_of_not_lt hk)] at e1'
      rw [List.getElem?_append_right (by rw [← ok.len]; exact Nat.le_of_not_lt hk), ← ok.len] at e2
      obtain ⟨ds, es, h1, rfl, h2⟩ := L2 _ _ e2
      obtain ⟨xs, h3, h4⟩ := okw.lst e1' h1
      refine ⟨xs, ?_, shAs_ok (by rw [ok.len]) tupS h4 h2⟩
      show upd w.H a _ b = some _
      rw [upd_ne (wm b (List.mem_of_getElem? e1')).2]
      exact h3
end
section
variable {X : Cx} {W : Nat → Hp → Prop} {e o : Expr} {es : List Expr} {pos apos : Pos} {fa : FE} {fs : FA} {ps : List Str} {k n : Nat} {cls : Nat → Value}
theorem se_make {x fld : Str} {F : Fn} {q : Pos} (c : ICal X.prog X.w X.K X.mg X.base k x fld ps (spI (gx X) cls fld F)) (ha : SE X e fa) (hr : Room (k + 1) X.A) (hg : Gl X x) (hdb : (x == ("__debug__" : Str)) = false := by decide)
    (he : starEach [e] X.env = (false, eval e X.env) :: starEach [] X.env := by rfl) (hpl : (backTo pos (starEach [] X.env)).any (·.1) = false := by rfl) : SE X (.Call (.Name x q) [e] [] pos) (eMake x fld F fa) := by
  obtain ⟨t, pt, vt⟩ := ha.ex
  obtain ⟨C, f, fd, F1, hm, hn, hM, hC, hA, hb⟩ := c.ex
  refine ⟨_, pe_make (E := fun _ _ _ => False) hM F1 hr hg hm hb .nil pass0 (pa_cons pt pa_nil he) hdb he hpl, fun p env M σ d M2 ok er h Q kk => ?_⟩
  obtain ⟨⟨d1, M1⟩, e1, h⟩ := bind_some h
  obtain ⟨ds, e2, h⟩ := bind_some h
  obtain ⟨oc, e3, h⟩ := bind_some h
  split at h
  · rename_i k1 M'
    obtain ⟨L, e4, h⟩ := map_some h
    cases h
    refine vt p env M σ d1 M1 ok er e1 _ fun q v l m ok1 rv => ?_
    intro a dx ha hd hne
    refine ⟨a, C, dx, v, by rw [List.append_nil], upd_same, hC, hA, ?_⟩
    have ra : Reps X.K (frzS q) [] [v] ds := rsvs_ok (p := q) (fun a o z => by unfold frzS; rw [z]) (lkS_ok ok1 4) (.cons rv .nil) e2
    refine ⟨⟨[], frzS q, upd (upd q.H dx (.own a)) a (.ins C dx [])⟩, [], ds, .rt (.loc k1) M', rfl, rfl, ⟨fun b o z => ?_, .nil, fun b z => (by cases z), rfl, fun k b o z _ => (by cases z)⟩, ra, e3, fun w y l2 ok2 ry => ?_⟩
    · have h1 := frzS_sub ok1 b o z
      have h2 : b ≠ a := fun e => by rw [e, ha] at h1; cases h1
      have h3 : b ≠ dx := fun e => by rw [e, hd] at h1; cases h1
      show upd (upd q.H dx (.own a)) a (.ins C dx []) b = some o
      rw [upd_ne h2, upd_ne h3]
      exact h1
    · refine ⟨l2.fr a _ upd_same (by simp), rfl, ?_⟩
      obtain ⟨h1, h2, h3⟩ := mak_ok (fld := fld) (u := y) ok1 ha hd hne rfl l2 ok2 e4
      refine kk ⟨q.m ++ w.m, makS q w a (.ins C dx [(fld, y)]), upd w.H a (.ins C dx [(fld, y)])⟩ (.ref a) (l.trans h1) rfl h2 ?_
      refine .obj (xs := [y]) (o := .ins C dx [(fld, y)]) ?_ ⟨C, dx, rfl, rfl, hn⟩ (.cons ?_ .nil)
      · show makS q w a _ a = _
        unfold makS
        rw [if_pos rfl]
      · cases ry with
        | @loc b _ hk =>
          refine .loc ?_
          show (q.m ++ w.m)[M1.length + k1]? = _
          rw [List.getElem?_append_right (by rw [ok1.len]; omega), ok1.len, Nat.add_sub_cancel_left]
          exact hk
  · cases h
end
end BX

set_option Elab.async false
set_option linter.all false
set_option maxRecDepth 100000
set_option maxHeartbeats 2000000
/-! BX31: a dict's keys as a list. -/
namespace BX
open PySem L2
def gKeysD (M : List MO) : List D → Option D
  | [d] => (dctL M d).bind fun r => if allTup r.2 = true then some (.lst (r.2.map (·.1))) else none
  | _ => none
def rKeysD (G : Gx) : List V → Hp → VK → Prop := fun vs H Q => ∃ (S : Hp) (kvs : List (D × D)) (a : Addr), vs = [.ref a] ∧ (∀ a o, S a = some o → H a = some o) ∧ DOk G S H a kvs ∧ allTup kvs = true ∧
  ∀ l ys, H l = none → Reps G.K S [] ys (kvs.map (·.1)) → Q (.ref l) (upd H l (.lst ys))
theorem keys_reps {G : Gx} {S : Hp} : ∀ {ys : List (NestedKey × Addr × Value)} {kvs : List (D × D)}, Paired (NP G S) ys kvs → Reps G.K S [] (ys.map fun y => V.ref y.2.1) (kvs.map (·.1))
  | _, _, .nil => .nil
  | _, _, .cons h r => .cons h.2.2.2.1 (keys_reps r)
theorem vals_keys : ∀ ys : List (NestedKey × Addr × Value), Vals (ys.map fun y => V.ref y.2.1) (ys.map fun y => Value.ref y.2.1)
  | [] => .nil
  | _ :: ys => .cons rfl (vals_keys ys)
theorem cr_keysD {X : Cx} (hc : X.calm = true) : CallR X (.type "list") (rKeysD (gx X)) := by
  intro pins s σ H vs us Q I r h
  obtain ⟨S, kvs, a, rfl, sub, hd, ht, q⟩ := h
  obtain ⟨ys, hm, hs, hz, pr⟩ := dok_keyed I sub hd ht
  rw [Vals.ref1 r]
  obtain ⟨o, es, ep, h1, h2, h3, hes, _⟩ := hm
  have hsz : es.size = ys.length := by
    have := congrArg List.length hes
    simpa using this
  refine W.kdl_call (KdlSrc.rawDict hs) (I.ok.hd hc) ⟨o, h1, h2, h3⟩ (by rw [hsz]; exact hz) fun h' tk acc c' old hl hi => ?_
  have hv : Vals (ys.map fun y => V.ref y.2.1) acc.toList := by
    have e : acc.toList = ys.map fun y => Value.ref y.2.1 := by
      apply List.ext_getElem?
      intro i
      rw [List.getElem?_map, Array.getElem?_toList]
      cases h4 : acc[i]? with
      | none =>
        have h5 : ¬ i < acc.size := fun z => by rw [Array.getElem?_eq_getElem z] at h4; cases h4
        rw [List.getElem?_eq_none (by rw [hi.1, hsz] at h5; omega)]
        rfl
      | some v =>
        obtain ⟨h5, rfl⟩ := hi.2 i v h4
        have h6 : es.toList[i]? = some es[i] := by rw [Array.getElem?_toList, Array.getElem?_eq_getElem h5]
        rw [hes, List.getElem?_map] at h6
        obtain ⟨y, h7, h8⟩ := map_some h6
        rw [h7, ← h8]
        rfl
    rw [e]
    exact vals_keys ys
  exact ⟨.ref _, upd H s.heap.objs.size (.lst (ys.map fun y => V.ref y.2.1)), I.laid (t' := tk) old (Nat.le_refl _) ⟨by rw [List.length_map]; exact hz, acc.toList, c', hv, by simpa using hl⟩, rfl, q _ _ (I.hok.fresh (Nat.le_refl _)) (keys_reps pr)⟩
theorem rc_keysD {G : Gx} : RC G (rKeysD G) gKeysD := by
  intro p M xs ds z ok r h Q k
  match ds, h with
  | [d], h =>
    obtain ⟨⟨j, kvs⟩, h1, h⟩ := bind_some h
    simp only at h
    split at h
    · rename_i ht
      cases h
      obtain ⟨x, rfl, rx⟩ := one_rep r
      obtain ⟨a, rfl, h2, h3⟩ := dctL_ok ok rx h1
      refine ⟨p.S, kvs, a, rfl, ok.sub, h3, ht, fun l ys hl h4 => ?_⟩
      have l2 : Le p (p.shd l (.lst ys)) := Le.shd hl (ok.S_none hl)
      exact k (p.shd l (.lst ys)) (.ref l) l2 rfl (ok.shd hl) (.lst upd_same (Reps.mono l2.sh (fun _ _ z => by simp at z) h4))
    · cases h
section
variable {X : Cx} {e : Expr} {pos : Pos} {fa : FE}
/-- list(d) -/
theorem se_keysD {q : Pos} (hc : X.calm = true) (hm : X.mg "list" = none) (ha : SE X e fa) (hg : Gl X "list" := by rfl) (he : starEach [e] X.env = (false, eval e X.env) :: starEach [] X.env := by rfl) (hpl : (backTo pos (starEach [] X.env)).any (·.1) = false := by rfl) :
    SE X (.Call (.Name "list" q) [e] [] pos) (eCall gKeysD (aCons fa aNil)) := se_callTy (cr_keysD hc) rc_keysD hg hm (by decide +kernel) (sa_cons ha sa_nil he) (by decide) (by decide) he hpl
end
end BX

set_option Elab.async false
set_option linter.all false
set_option maxRecDepth 100000
set_option maxHeartbeats 2000000
/-! BX32: objects and dicts handed back; __init__; d[k], x = a, b. -/
namespace BX
open PySem L2
open PyProof.Rows (envOfC)
/-! ### __init__ -/
theorem init_ok {P : Program} {w : World} {K : PySem.W.Frag} {mg : Str → Option Value} {base : Heap} {x qual fld : Str} {N ps : List Str} {st : Stmt} {f : Addr} {fd : FuncData} {k : Nat} {cls : Nat → Value} {F1 : Fn}
    (F : Fun K x qual st f fd) (S : FnScope N ps (defScope st)) (hps : ps.length = 2)
    (hb : ∀ (cdv : Value) (A : Around) (outer : List Env) (s : Shared) (H : Hp) (E : XK), Room k (A.deeper (envOfC qual (defScope st) s.heap.objs.size f cdv)) →
      PSs (cxOf CX0 P w K mg base N qual (defScope st) f cdv A outer s H E).nox (defBody st) (sFld K (tVar 0) (tCall (spF ⟨P, w, K⟩ cls 1 F1) [] E (tCons (tVar 1) tNil)) fld)) :
    FnOk P w K mg base CX0 (k + 1) f fd ps (spI ⟨P, w, K⟩ cls fld F1) := by
  refine F.ok S (fun vs H Q E h => ?_) (fun cdv A outer s H vs Q E hr h => ?_)
  · obtain ⟨a, C, dx, v, rfl, _⟩ := h
    exact hps.symm
  · refine ⟨_, hb cdv A outer s H E hr, ?_⟩
    obtain ⟨a, C, dx, v, rfl, h1, h2, h3, h4⟩ := h
    obtain ⟨p, M, ds, oc, z1, rfl, z2, z3, z4, z5⟩ := h4
    refine ⟨v, rfl, ?_⟩
    refine ⟨p, M, ds, oc, rfl, rfl, z2, z3, z4, ?_⟩
    cases oc with
    | rt d M' =>
      intro q y l ok r
      obtain ⟨g1, g2⟩ := z5 q y l ok r
      exact ⟨.ref a, rfl, a, C, dx, [], rfl, g1, h2, h3, by decide, g2⟩
    | ex c => exact z5
    | _ => exact z5
/-! ### a call that hands back an object -/
def lkX (b : Nat) : Nat → List MO → Nat → Option D
  | 0, _, _ => none
  | n + 1, M, k => if k = b then none else match M[k]? with
    | some (.lst ds) => (rsRs (lkX b n M) ds).map .lst
    | _ => none
def eCallO (F : Fn) (args : FA) (env : En) (M : List MO) : Option (D × List MO) := (args env M).bind fun r => (rsvs (lkp 4 r.2) r.1).bind fun ds => (F ds []).bind fun o => match o with
  | .rt (.obj (.ins x fs) [.loc k]) M' => match M'[k]? with
    | some (.lst es) => (rsRs (lkX k 4 M') es).map fun us => (.obj (.ins x fs) [.loc r.2.length], r.2 ++ [.lst us])
    | _ => none
  | _ => none
section
variable {G : Gx} {q w : Ps} {M M' : List MO}
def objS (q w : Ps) (b : Addr) : Hp := fun c => if c = b then none else aftS q w c
theorem objS_some {b c : Addr} {o : HO} (hb : w.S b = none) (hw : w.S c = some o) (h : aftS q w c = some o) : objS q w b c = some o := by
  unfold objS
  rw [if_neg (fun e => by rw [e, hb] at hw; cases hw)]
  exact h
theorem lkX_ok {m' : List Addr} (ok : Ok G q M) (l : Le ⟨[], frzS q, q.H⟩ w) (okw : Ok G w M') {b : Addr} {kb : Nat} (hb : w.m[kb]? = some b) : ∀ (n k : Nat) (a : Addr) (d : D), w.m[k]? = some a → lkX kb n M' k = some d → Rep G.K (objS q w b) m' (.ref a) d
  | 0, _, _, _, _, h => by cases h
  | n + 1, k, a, d, h1, h => by
    rw [lkX] at h
    split at h
    · cases h
    · rename_i hk
      split at h
      · rename_i ds e
        obtain ⟨es, e1, e2⟩ := map_some h
        subst e2
        obtain ⟨xs, h2, h3⟩ := okw.lst h1 e
        have hSb : w.S b = none := okw.apart b (List.mem_of_getElem? hb)
        refine .lst ?_ (rsRs_ok (fun c us z => objS_some hSb z (aft_tup ok l z)) (lkX_ok ok l okw hb n) h3 e1)
        unfold objS
        rw [if_neg (fun e => ?_)]
        · exact aft_new ok l okw h1 h2
        · subst e
          obtain ⟨b1, b2⟩ := List.getElem?_eq_some_iff.mp hb
          obtain ⟨b3, b4⟩ := List.getElem?_eq_some_iff.mp h1
          exact hk ((List.getElem_inj okw.nd).mp (b4.trans b2.symm))
      · cases h
theorem obj_okG (ok : Ok G q M) (l : Le ⟨[], frzS q, q.H⟩ w) (okw : Ok G w M') {b : Addr} {kb : Nat} (hb : w.m[kb]? = some b) {o : MO} (hr : MOR G ⟨q.m ++ [b], objS q w b, w.H⟩ b o) :
    Le q ⟨q.m ++ [b], objS q w b, w.H⟩ ∧ Ok G ⟨q.m ++ [b], objS q w b, w.H⟩ (M ++ [o]) := by
  have hm := List.mem_of_getElem? hb
  have qH : q.H b = none := by
    rcases l.nm b hm with z | z
    · cases z
    · exact z
  have hSb : w.S b = none := okw.apart b hm
  have l1 := aft_le ok l
  have ok1 := aft_ok ok l okw
  have nb : ∀ c o, q.H c = some o → c ≠ b := fun c o h e => by rw [e, qH] at h; cases h
  have hle : Le q ⟨q.m ++ [b], objS q w b, w.H⟩ := by
    refine ⟨⟨[b], rfl⟩, fun c o h => ?_, fun c o h1 h2 => ?_, fun c o h1 h2 => l1.fr c o h1 h2, fun c o h => l1.dm c o h, fun c h => ?_⟩
    · show objS q w b c = some o
      unfold objS
      rw [if_neg (nb c o (ok.sub _ _ h))]
      exact l1.sh c o h
    · show objS q w b c = none
      unfold objS
      rw [if_neg (nb c o h2)]
      exact l1.nw c o h1 h2
    · have h' : c ∈ q.m ++ [b] := h
      rcases List.mem_append.mp h' with z | z
      · exact .inl z
      · rw [List.mem_singleton] at z
        rw [z]
        exact .inr qH
  refine ⟨hle, ⟨fun c o h => ?_, ?_, fun c h => ?_, ?_, fun k c o2 e1 e2 => ?_⟩⟩
  · have h' : objS q w b c = some o := h
    unfold objS at h'
    split at h'
    · cases h'
    · exact ok1.sub c o h'
  · show (q.m ++ [b]).Nodup
    rw [List.nodup_append]
    refine ⟨ok.nd, by simp, fun x hx y hy e => ?_⟩
    rw [List.mem_singleton] at hy
    subst hy e
    exact ok.m_some _ hx qH
  · have h' : c ∈ q.m ++ [b] := h
    show objS q w b c = none
    unfold objS
    split
    · rfl
    · rename_i hc
      rcases List.mem_append.mp h' with z | z
      · exact ok1.apart c z
      · rw [List.mem_singleton] at z
        exact absurd z hc
  · show (q.m ++ [b]).length = (M ++ [o]).length
    rw [List.length_append, List.length_append, ok.len]
    rfl
  · have e1' : (q.m ++ [b])[k]? = some c := e1
    by_cases hk : k < q.m.length
    · rw [List.getElem?_append_left hk] at e1'
      rw [List.getElem?_append_left (by rw [← ok.len]; exact hk)] at e2
      exact MOR.mono hle (fun o h => l.fr c o h (by simp)) (ok.at_ k c o2 e1' e2)
    · rw [List.getElem?_append_right (Nat.le_of_not_lt hk)] at e1'
      rw [List.getElem?_append_right (by rw [← ok.len]; exact Nat.le_of_not_lt hk), ← ok.len] at e2
      generalize k - q.m.length = j at e1' e2
      cases j with
      | zero =>
        simp only [List.getElem?_cons_zero, Option.some.injEq] at e1' e2
        subst e1' e2
        exact hr
      | succ j => simp at e2
theorem obj_ok (ok : Ok G q M) (l : Le ⟨[], frzS q, q.H⟩ w) (okw : Ok G w M') {b : Addr} {kb : Nat} (hb : w.m[kb]? = some b) {us : List D} {xs : List V} (hH : w.H b = some (.lst xs)) (hr : Reps G.K (objS q w b) (q.m ++ [b]) xs us) :
    Le q ⟨q.m ++ [b], objS q w b, w.H⟩ ∧ Ok G ⟨q.m ++ [b], objS q w b, w.H⟩ (M ++ [.lst us]) := obj_okG ok l okw hb (o := .lst us) ⟨xs, hH, hr⟩
theorem ev_callO {ta : TA} {E : XK} {fs : FA} {F : Fn} {np : Nat} {cls : Nat → Value} (h : EvA G ta fs) (hn : ∀ env M ds M', fs env M = some (ds, M') → ds.length = np) : Ev G (tCall (spF G cls np F) [] E ta) (eCallO F fs) := by
  intro p env M σ d N ok er h1 Q kk
  obtain ⟨⟨ds, M1⟩, e1, h1⟩ := bind_some h1
  obtain ⟨ds', e2, h1⟩ := bind_some h1
  obtain ⟨o, e4, h1⟩ := bind_some h1
  split at h1
  · rename_i x fl kb M'
    split at h1
    · rename_i es e6
      obtain ⟨us, e5, h1⟩ := map_some h1
      cases h1
      refine h p env M σ ds _ ok er e1 _ fun q xs l m ok1 r => ?_
      have ra : Reps G.K (frzS q) [] xs ds' := rsvs_ok (p := q) (fun a o z => by unfold frzS; rw [z]) (lkS_ok ok1 4) r e2
      refine ⟨⟨[], frzS q, q.H⟩, [], ds', .rt _ M', ?_, rfl, frz_ok ok1, by rw [List.append_nil]; exact ra, e4, fun w y l2 ok2 ry => ?_⟩
      · rw [List.append_nil, r.length]
        exact hn _ _ _ _ e1
      · cases ry with
        | @obj a _ vs _ ob g1 g2 g3 =>
          cases g3 with
          | @cons v _ _ _ gv g4 =>
            cases g4
            cases gv with
            | @loc b _ hb =>
              obtain ⟨ys, g5, g6⟩ := ok2.lst hb e6
              have hSb : w.S b = none := ok2.apart b (List.mem_of_getElem? hb)
              have gr : Reps G.K (objS q w b) (q.m ++ [b]) ys us := rsRs_ok (fun c us z => objS_some hSb z (aft_tup ok1 l2 z)) (lkX_ok ok1 l2 ok2 hb 4) g6 e5
              obtain ⟨l3, ok3⟩ := obj_ok ok1 l2 ok2 hb g5 gr
              refine kk ⟨q.m ++ [b], objS q w b, w.H⟩ (.ref a) (l.trans l3) rfl ok3 ?_
              have hno : ∀ us, ob ≠ HO.lst us := fun us z => by
                obtain ⟨C, dx, z2, _⟩ := g2
                rw [z] at z2
                cases z2
              refine .obj (xs := [.ref b]) (objS_some hSb g1 (aft_keep (fun a o z => ⟨o, z⟩) l2 g1 hno)) g2 (.cons (.loc ?_) .nil)
              show (q.m ++ [b])[M1.length]? = some b
              rw [← ok1.len, List.getElem?_append_right (Nat.le_refl _), Nat.sub_self]
              rfl
    · cases h1
  · cases h1
end
section
variable {X : Cx} {e : Expr} {es : List Expr} {pos : Pos} {fs : FA} {x : Str} {k : Nat} {ps : List Str} {F : Fn} {cls : Nat → Value}
theorem se_callO {q : Pos} {n : Nat} (c : Cal X.prog X.w X.K X.mg X.base k x ps (spF (gx X) cls n F)) (ha : SAn X (e :: es) fs n) (hr : Room k X.A) (hg : Gl X x) (hdb : (x == ("__debug__" : Str)) = false := by decide)
    (he : starEach (e :: es) X.env = (false, eval e X.env) :: starEach es X.env := by rfl) (hpl : (backTo pos (starEach es X.env)).any (·.1) = false := by rfl) : SE X (.Call (.Name x q) (e :: es) [] pos) (eCallO F fs) := by
  obtain ⟨t, pt, vt⟩ := ha.a.ex
  obtain ⟨f, fd, F1, hm, hk, hb⟩ := c.ex
  exact ⟨_, pe_call F1 hr hg hm hk hb .nil pass0 pt hdb he hpl, ev_callO vt ha.n⟩
end
end BX

set_option Elab.async false
set_option linter.all false
set_option maxRecDepth 100000
set_option maxHeartbeats 2000000
/-! BX33: dicts handed back; d[k], x = a, b. -/
namespace BX
open PySem L2
/-! ### a call that hands back a new dict, or None -/
mutual
/-- no list within -/
def flatT : D → Bool
  | .non => true
  | .bl _ => true
  | .int _ => true
  | .str _ => true
  | .tup xs => flatTs xs
  | _ => false
def flatTs : List D → Bool
  | [] => true
  | d :: ds => flatT d && flatTs ds
end
section
variable {K : PySem.W.Frag} {S S' : Hp} {m m' : List Addr}
mutual
theorem flatT_ok (ht : ∀ a xs, S a = some (.tup xs) → S' a = some (.tup xs)) : ∀ {x : V} {d : D}, Rep K S m x d → flatT d = true → Rep K S' m' x d
  | _, _, .non, _ => .non
  | _, _, .bl b, _ => .bl b
  | _, _, .int i, _ => .int i
  | _, _, .str x, _ => .str x
  | _, _, .tup h1 h2, h => .tup (ht _ _ h1) (flatTs_ok ht h2 (by simpa [flatT] using h))
  | _, _, .emp _, h => by simp [flatT] at h
  | _, _, .lst _ _, h => by simp [flatT] at h
  | _, _, .frz _ _, h => by simp [flatT] at h
  | _, _, .obj _ _ _, h => by simp [flatT] at h
  | _, _, .loc _, h => by simp [flatT] at h
theorem flatTs_ok (ht : ∀ a xs, S a = some (.tup xs) → S' a = some (.tup xs)) : ∀ {xs : List V} {ds : List D}, Reps K S m xs ds → flatTs ds = true → Reps K S' m' xs ds
  | _, _, .nil, _ => .nil
  | _, _, .cons h1 h2, h => by
    simp only [flatTs, Bool.and_eq_true] at h
    exact .cons (flatT_ok ht h1 h.1) (flatTs_ok ht h2 h.2)
end
end
def flatKv (kvs : List (D × D)) : Bool := kvs.all fun q => flatT q.1 && flatT q.2
theorem paired_kv {α : Type} {R R' : α → D × D → Prop} (h : ∀ p q, R p q → flatT q.1 = true → flatT q.2 = true → R' p q) : ∀ {xs : List α} {kvs : List (D × D)}, Paired R xs kvs → flatKv kvs = true → Paired R' xs kvs
  | _, _, .nil, _ => .nil
  | _, _, .cons (b := b) h1 h2, hf => by
    simp only [flatKv, List.all_cons, Bool.and_eq_true] at hf
    exact .cons (h _ _ h1 hf.1.1 hf.1.2) (paired_kv h h2 (by rw [flatKv]; exact hf.2))
theorem DOk.flat {G : Gx} {S S' H : Hp} {a : Addr} {kvs : List (D × D)} (ht : ∀ a xs, S a = some (.tup xs) → S' a = some (.tup xs)) (hf : flatKv kvs = true) (h : DOk G S H a kvs) : DOk G S' H a kvs := by
  rcases h with ⟨kk, h1, h2⟩ | ⟨xs, h1, h2, h3⟩
  · exact .inl ⟨kk, h1, paired_kv (fun p q z f1 f2 => ⟨z.1, flatT_ok ht z.2 f2⟩) h2 hf⟩
  · exact .inr ⟨xs, h1, paired_kv (fun p q z f1 f2 => ⟨z.1, z.2.1, z.2.2.1, flatT_ok ht z.2.2.2.1 f1, flatT_ok ht z.2.2.2.2 f2⟩) h2 hf, h3⟩
def eCallD (F : Fn) (args : FA) (env : En) (M : List MO) : Option (D × List MO) := (args env M).bind fun r => (rsvs (lkp 4 r.2) r.1).bind fun ds => (F ds []).bind fun o => match o with
  | .rt .non _ => some (.non, r.2)
  | .rt (.loc k) M' => match M'[k]? with
    | some (.dct kvs) => if flatKv kvs = true then some (.loc r.2.length, r.2 ++ [.dct kvs]) else none
    | _ => none
  | _ => none
section
variable {G : Gx}
theorem ev_callD {ta : TA} {E : XK} {fs : FA} {F : Fn} {np : Nat} {cls : Nat → Value} (h : EvA G ta fs) (hn : ∀ env M ds M', fs env M = some (ds, M') → ds.length = np) : Ev G (tCall (spF G cls np F) [] E ta) (eCallD F fs) := by
  intro p env M σ d N ok er h1 Q kk
  obtain ⟨⟨ds, M1⟩, e1, h1⟩ := bind_some h1
  obtain ⟨ds', e2, h1⟩ := bind_some h1
  obtain ⟨o, e4, h1⟩ := bind_some h1
  split at h1
  · rename_i M'
    cases h1
    refine h p env M σ ds _ ok er e1 _ fun q xs l m ok1 r => ?_
    refine callR_core ok1 (by rw [List.append_nil]; exact r) e2 e4 ?_ (d2 := .non) rfl fun u y l3 ok3 ry => kk u y (l.trans l3) rfl ok3 ry
    rw [List.append_nil, r.length]
    exact hn _ _ _ _ e1
  · rename_i kb M'
    split at h1
    · rename_i kvs e6
      split at h1
      · rename_i hf
        cases h1
        refine h p env M σ ds _ ok er e1 _ fun q xs l m ok1 r => ?_
        have ra : Reps G.K (frzS q) [] xs ds' := rsvs_ok (p := q) (fun a o z => by unfold frzS; rw [z]) (lkS_ok ok1 4) r e2
        refine ⟨⟨[], frzS q, q.H⟩, [], ds', .rt _ M', ?_, rfl, frz_ok ok1, by rw [List.append_nil]; exact ra, e4, fun w y l2 ok2 ry => ?_⟩
        · rw [List.append_nil, r.length]
          exact hn _ _ _ _ e1
        · cases ry with
          | @loc b _ hb =>
            have hd : DOk G w.S w.H b kvs := ok2.at_ kb b _ hb e6
            have hSb : w.S b = none := ok2.apart b (List.mem_of_getElem? hb)
            obtain ⟨l3, ok3⟩ := obj_okG ok1 l2 ok2 hb (o := .dct kvs) (hd.flat (S' := objS q w b) (fun c us z => objS_some hSb z (aft_tup ok1 l2 z)) hf)
            refine kk ⟨q.m ++ [b], objS q w b, w.H⟩ (.ref b) (l.trans l3) rfl ok3 (.loc ?_)
            show (q.m ++ [b])[M1.length]? = some b
            rw [← ok1.len, List.getElem?_append_right (Nat.le_refl _), Nat.sub_self]
            rfl
      · cases h1
    · cases h1
  · cases h1
end
section
variable {X : Cx} {e : Expr} {es : List Expr} {pos : Pos} {fs : FA} {x : Str} {k : Nat} {ps : List Str} {F : Fn} {cls : Nat → Value}
theorem se_callD {q : Pos} {n : Nat} (c : Cal X.prog X.w X.K X.mg X.base k x ps (spF (gx X) cls n F)) (ha : SAn X (e :: es) fs n) (hr : Room k X.A) (hg : Gl X x) (hdb : (x == ("__debug__" : Str)) = false := by decide)
    (he : starEach (e :: es) X.env = (false, eval e X.env) :: starEach es X.env := by rfl) (hpl : (backTo pos (starEach es X.env)).any (·.1) = false := by rfl) : SE X (.Call (.Name x q) (e :: es) [] pos) (eCallD F fs) := by
  obtain ⟨t, pt, vt⟩ := ha.a.ex
  obtain ⟨f, fd, F1, hm, hk, hb⟩ := c.ex
  exact ⟨_, pe_call F1 hr hg hm hk hb .nil pass0 pt hdb he hpl, ev_callD vt ha.n⟩
end

/-! ### d[k], x = a, b -/
def fSetDIN (fa fb fo fi : FE) (j : Nat) (env : En) (M : List MO) : Option Out := (fa env M).bind fun r => (fb env r.2).bind fun s => (fo env s.2).bind fun t => (fi env t.2).bind fun u => (dctL u.2 t.1).bind fun q => match u.1 with
  | .int i => if (nl r.1 && allIntK q.2 && lim q.2.length) = true then some (.nx (env.set j (some s.1)) (u.2.set q.1 (.dct (storeD (.num i) (.int i) r.1 q.2)))) else none
  | _ => none
section
variable {X : Cx} {W : Nat → Hp → Prop} {a b o i : Expr} {pos tpos p1 p2 px : Pos} {k1 k2 : Nat} {fa fb fo fi : FE} {x : Str} {j : Nat}
theorem ss_setDIN (hu : X.A.units + 66 < cLine) (hc : X.calm = true) (hN : X.N.Nodup) (hva : SE X a fa) (hvb : SE X b fb) (ho : SE X o fo) (hi : SE X i fi)
    (ha : ∀ v, assign (.Subscript o i tpos) X.env v = (do
      let ov ← holding [v] (eval o X.env)
      let iv ← holding [v, ov] (eval i X.env)
      standAt tpos
      holding [v, ov, iv] (setItem ov iv v)
      release [v, ov, iv] []) := by intro _; rfl)
    (hj : X.N[j]? = some x := by rfl) (hx : Loc X.env.scope x := by first | exact .inl rfl | exact .inr rfl) (hf : X.fn x = true ∨ X.env.scope.names.lookup x = some .local := by first | exact .inl rfl | exact .inr rfl | assumption)
    (sa : starEach [a, b] X.env = (false, eval a X.env) :: starEach [b] X.env := by rfl) (sb : starEach [b] X.env = (false, eval b X.env) :: starEach [] X.env := by rfl)
    (hn : (assignEach [.Subscript o i tpos, .Name x px] X.env).length = 2 := by rfl) (hst : (assignEach [.Subscript o i tpos, .Name x px] X.env).findIdx? (·.1) = none := by rfl)
    (hs : swapsWithSole [.Tuple [.Subscript o i tpos, .Name x px] k1 p1] (.Tuple [a, b] k2 p2) pos.line X.env = pure false := by rfl) (hw : swappedStores [.Tuple [.Subscript o i tpos, .Name x px] k1 p1] (.Tuple [a, b] k2 p2) X.env = pure none := by rfl)
    (h1 : (assignEach [.Tuple [.Subscript o i tpos, .Name x px] k1 p1] X.env).map (·.2) = [assign (.Tuple [.Subscript o i tpos, .Name x px] k1 p1) X.env] := by rfl) :
    SS X W (.Assign [.Tuple [.Subscript o i tpos, .Name x px] k1 p1] (.Tuple [a, b] k2 p2) pos) (fSetDIN fa fb fo fi j) := by
  obtain ⟨tv, pv, vv⟩ := hva.ex
  obtain ⟨tb, pb, vb⟩ := hvb.ex
  obtain ⟨t, pt, vt⟩ := ho.ex
  obtain ⟨u, pu, vu⟩ := hi.ex
  refine ⟨_, ps_asg (pe_tup (pa_cons pv (pa_cons pb pa_nil sb) sa)) (pg_tup (n := 2) hc (pgs_cons (pg_sub pt pu (set_dctI hu) ha) (pgs_cons (pg_name hN hj hx hf) pgs_nil)) hn hst) hs hw h1, fun p env M σ oc ok er h D k => ?_⟩
  obtain ⟨⟨d1, M1⟩, e1, h⟩ := bind_some h
  obtain ⟨⟨d0, M0⟩, e0, h⟩ := bind_some h
  obtain ⟨⟨d2, M2⟩, e2, h⟩ := bind_some h
  obtain ⟨⟨d3, M3⟩, e3, h⟩ := bind_some h
  obtain ⟨⟨jj, kvs⟩, e4, h⟩ := bind_some h
  cases d3 with
  | int n =>
    simp only at h
    split at h
    · rename_i h5
      simp only [Bool.and_eq_true] at h5
      obtain ⟨⟨g2, g3⟩, g4⟩ := h5
      cases h
      refine vv p env M σ d1 M1 ok er e1 _ fun q x1 l1 m1 ok1 rx => ?_
      refine vb q env M1 σ d0 M0 ok1 (er.mono l1) e0 _ fun q0 x0 l0 m0 ok0 r0 => ?_
      refine ⟨show 2 ≤ sizeLine by decide, fun T hT => ?_⟩
      have lT : Le q0 (q0.shd T (.tup [x1, x0])) := Le.shd hT (ok0.S_none hT)
      have okT : Ok (gx X) (q0.shd T (.tup [x1, x0])) M0 := ok0.shd hT
      refine ⟨T, [x1, x0], rfl, SqT.of upd_same, rfl, ?_⟩
      have l01 := (l1.trans l0).trans lT
      refine ⟨x1, [x0], rfl, ?_⟩
      refine vt (q0.shd T (.tup [x1, x0])) env M0 σ d2 M2 okT (er.mono l01) e2 _ fun q2 y l2 m2 ok2 ry => ?_
      refine vu q2 env M2 σ _ M3 ok2 (er.mono (l01.trans l2)) e3 _ fun q3 z l3 m3 ok3 rz => ?_
      obtain ⟨a, rfl, h3, h4⟩ := dctL_ok ok3 (l3.rep ry) e4
      have l13 := (l01.trans l2).trans l3
      cases rz
      obtain ⟨kk, c1, c2⟩ := dok_int h4 g3
      have hlen := Paired.length c2
      have re : Rep X.K q3.S [] x1 d1 := ((((l0.trans lT).trans l2).trans l3).rep rx).of_nl g2
      refine ⟨a, _, rfl, DPut.k (k := .inl n) c1 (by rw [hlen]; exact lim_lt g4), ?_⟩
      have l4 : Le q3 (q3.put a (.dK (putK kk (.inl n) x1))) := Le.put (List.mem_of_getElem? h3)
      refine ⟨x0, [], rfl, rfl, ?_⟩
      refine k (q3.put a (.dK (putK kk (.inl n) x1))) _ (l13.trans l4) (ok3.put h3 ?_) ((er.mono (l13.trans l4)).set ((((lT.trans l2).trans l3).trans l4).rep r0))
      refine .inl ⟨_, upd_same, ?_⟩
      unfold putK storeD
      rw [any_val, (val_find (i := n) c2 g3).1]
      split
      · exact kp_map re c2 g3
      · exact kp_snoc c2 ⟨rfl, re⟩
    · cases h
  | _ => cases h
end
end BX

set_option Elab.async false
set_option linter.all false
set_option maxRecDepth 100000
set_option maxHeartbeats 2000000
/-! BX34: sorted of tuples of whole numbers, the first one empty. -/
namespace BX
open PySem L2
open PyProof.Rows (keyKind' firstOfTuple' oneTypeOnly' oneType' oneLt' keyLt')
theorem wp_mapM {α β : Type} {M : Model} {A : Around} {E : Value → Shared → Prop} {s : Shared} {f : α → Sem β} (g : α → β) : ∀ (l : List α) {Q : List β → Shared → Prop}, (∀ v ∈ l, ∀ Q' : β → Shared → Prop, Q' (g v) s → wpAny M A (f v) Q' E s) → Q (l.map g) s → wpAny M A (l.mapM f) Q E s
  | [], Q, _, hq => by
    rw [List.mapM_nil]
    exact wpAny_pure hq
  | v :: l, Q, h, hq => by
    rw [List.mapM_cons]
    refine wpAny_bind (h v List.mem_cons_self _ ?_)
    refine wpAny_bind (wp_mapM g l (fun u hu => h u (List.mem_cons_of_mem _ hu)) ?_)
    exact wpAny_pure hq
def itemsV (h : Heap) : Value → List Value
  | .ref a => match h.get? a with
    | some o => match o.data with
      | .seq xs _ => xs.toList
      | _ => []
    | none => []
  | _ => []
def IsTup (h : Heap) (v : Value) : Prop := ∃ a o items n, v = .ref a ∧ h.get? a = some o ∧ o.cls = .type "tuple" ∧ o.data = .seq items n
theorem first_tup {prog : Program} {w : World} {A : Around} {E : Value → Shared → Prop} {s : Shared} {v : Value} (h : IsTup s.heap v) {Q : Option Value → Shared → Prop} (hq : Q (itemsV s.heap v)[0]? s) : wpAny (model prog w) A (firstOfTuple' v) Q E s := by
  obtain ⟨a, o, items, n, rfl, h1, h2, h3⟩ := h
  rw [W.kas_first_eq]
  refine wpAny_bind (wpAny_typeOf_ref h1 ?_)
  rw [h2]
  rw [if_neg (by decide)]
  refine wpAny_bind (wpAny_listItems h1 h3 ?_)
  refine wpAny_pure ?_
  have e : (itemsV s.heap (.ref a))[0]? = items[0]? := by
    unfold itemsV
    simp only [h1, h3]
    rw [Array.getElem?_toList]
  rw [e] at hq
  exact hq
theorem kind_tupE {prog : Program} {w : World} {A : Around} {E : Value → Shared → Prop} {s : Shared} {v0 : Value} {rest : List Value} (h : ∀ v ∈ v0 :: rest, IsTup s.heap v) (h0 : itemsV s.heap v0 = []) {Q : PyProof.Rows.SortKind → Shared → Prop} (hq : Q oneType' s) : wpAny (model prog w) A (keyKind' (v0 :: rest).toArray) Q E s := by
  rw [PyProof.Rows.keyKind'_eq]
  refine wpAny_bind ?_
  rw [List.mapM_toArray]
  refine wpAny_bind (wp_mapM (fun v => (itemsV s.heap v)[0]?) _ (fun v hv Q' hq => first_tup (h v hv) hq) ?_)
  refine wpAny_pure ?_
  have e1 : ((List.map (fun v => (itemsV s.heap v)[0]?) (v0 :: rest)).toArray.all fun x => x.isSome) = false := by
    simp [h0]
  rw [e1, if_neg (by decide)]
  have e2 : ((List.map (fun v => (itemsV s.heap v)[0]?) (v0 :: rest)).toArray[0]?.bind id).isSome = false := by
    simp [h0]
  rw [e2, if_neg (by decide)]
  refine wpAny_bind ?_
  rw [PyProof.Rows.oneTypeOnly'_eq]
  refine wpAny_bind ?_
  rw [List.mapM_toArray]
  refine wpAny_bind (wp_mapM (fun _ => Value.type "tuple") _ (fun v hv Q' hq => ?_) ?_)
  · obtain ⟨a, o, items, n, rfl, h1, h2, h3⟩ := h v hv
    refine wpAny_typeOf_ref h1 ?_
    rw [h2]
    exact hq
  · refine wpAny_pure ?_
    have e3 : (List.map (fun _ => Value.type "tuple") (v0 :: rest)).toArray[0]? = some (.type "tuple") := by simp
    rw [e3]
    have e4 : ((List.map (fun _ : Value => Value.type "tuple") (v0 :: rest)).toArray.all fun x => x == Value.type "tuple") = true := by
      rw [List.all_toArray, List.all_eq_true]
      intro x hx
      obtain ⟨_, _, rfl⟩ := List.mem_map.mp hx
      rfl
    simp only [e4, if_true]
    refine wpAny_pure (wpAny_pure ?_)
    exact hq
theorem call_tuple_lt {A : Around} {s : Shared} {prog : Program} {w : World} {E Q : Value → Shared → Prop} {l b : Addr} {o o2 : Obj} {items items2 : Array Value} {n n2 : Nat} {e r : Nat → Bool} (hl : s.heap.get? l = some o) (hc : o.cls = .type "tuple") (hd : o.data = .seq items n) (hb : s.heap.get? b = some o2) (hc2 : o2.cls = .type "tuple") (hd2 : o2.data = .seq items2 n2)
    (he : ∀ (j : Nat) (h1 : j < items.size) (h2 : j < items2.size), SeqAt.EqAt A.in1 s items[j] items2[j] (e j)) (hr : ∀ (j : Nat) (h1 : j < items.size) (h2 : j < items2.size), e j = false → SeqAt.RcLt A.in1 s items[j] items2[j] (r j))
    (h : Q (.bool (SeqAt.firstLt e r (decide (items.size < items2.size)) (List.range (min items.size items2.size)))) s) : wpAny (model prog w) A (call (.builtin "tuple.__lt__") [.ref l, .ref b]) Q E s := by
  obtain ⟨cls, dd, data, sl⟩ := o
  obtain ⟨cls2, dd2, data2, sl2⟩ := o2
  cases hc
  cases hd
  cases hc2
  cases hd2
  exact call_meets F.slot_tuple_lt ⟨_, hl, rfl⟩ F.entry_tuple_lt (F.args_tuple_lt_2 _ _) (SeqAt.tuple_ltAt l b items items2 n n2 dd dd2 sl sl2 e r) ⟨hl, hb, he, hr, h⟩
theorem oneLt_tup {prog : Program} {w : World} {A : Around} {E : Value → Shared → Prop} {s : Shared} {xs ys : List PyData} {a b : Value} {as bs : List Addr} {Q : Bool → Shared → Prop} (ra : Reads s.heap a (.tuple xs) as) (rb : Reads s.heap b (.tuple ys) bs) (h : W.alikeAll xs ys = true) (hu : A.units + min (PyData.tuple xs).depth (PyData.tuple ys).depth < cLine)
    (hq : Q (W.dataLt (.tuple xs) (.tuple ys)) s) : wpAny (model prog w) A (oneLt' true a b) Q E s := by
  cases ra with
  | @tuple a o vs n _ _ h1 h2 h3 h4 =>
    cases rb with
    | @tuple b o2 ws n2 _ _ g1 g2 g3 g4 =>
      rw [PyProof.Rows.oneLt'_eq]
      simp only [if_true]
      refine wpAny_bind (wpAny_cRoomFor (SeqAt.room_here hu) ?_)
      have hu2 : A.in1.units + min (PyData.depthAll xs) (PyData.depthAll ys) < cLine := SeqAt.room_in hu
      have lx := SeqAt.ReadsAll.length _ _ _ h4
      have ly := SeqAt.ReadsAll.length _ _ _ g4
      refine wpAny_bind (wpAny_callSpecialIfBound?_slot (T := "tuple") ⟨o, h1, h2⟩ F.slot_tuple_lt (call_tuple_lt (e := SeqAt.pairEq xs ys) (r := fun j => W.dataLt (xs.getD j .none) (ys.getD j .none)) h1 h2 h3 g1 g2 g3 (fun j j1 j2 => ?_) (fun j j1 j2 hj => ?_) ?_))
      · have := W.eqAt_alikeAll xs ys A.in1 s vs.toList ws.toList _ _ h4 g4 h hu2 j (by simpa using j1) (by simpa using j2)
        simpa using this
      · have := W.rcLt_alikeAll xs ys A.in1 s vs.toList ws.toList _ _ h4 g4 h hu2 j (by simpa using j1) (by simpa using j2) hj
        simpa using this
      · have e : SeqAt.firstLt (SeqAt.pairEq xs ys) (fun j => W.dataLt (xs.getD j .none) (ys.getD j .none)) (decide (vs.size < ws.size)) (List.range (min vs.size ws.size)) = W.dataLt (.tuple xs) (.tuple ys) := by
          rw [W.dataLt_tuple, ← W.firstLt_toks xs ys h]
          simp only [Array.length_toList] at lx ly
          rw [← lx, ← ly]
        rw [e]
        exact wpAny_truthy_bool hq

def tupI (ns : List Int) : D := .tup (ns.map D.int)
theorem py_tupI (ns : List Int) : py (tupI ns) = .tuple (ns.map PyData.int) := by
  show PyData.tuple (pys (ns.map D.int)) = _
  rw [pys_map, List.map_map]
  rfl
def IsT (h : Heap) (v : Value) (ns : List Int) : Prop := ∃ a o items n, v = .ref a ∧ h.get? a = some o ∧ o.cls = .type "tuple" ∧ o.data = .seq items n ∧ ∃ as, ReadsAll h items.toList (ns.map PyData.int) as
theorem readsAll_ints {h h' : Heap} : ∀ {ns : List Int} {vs : List Value} {as : List Addr}, ReadsAll h vs (ns.map PyData.int) as → ReadsAll h' vs (ns.map PyData.int) as
  | [], _, _, .nil => .nil
  | n :: ns, _, _, .cons h1 r => by
    cases h1 with
    | int i t => exact .cons (.int _ t) (readsAll_ints r)
theorem IsT.mono {h h' : Heap} {v : Value} {ns : List Int} (t : IsT h v ns) (e : ∀ b o, h.get? b = some o → h'.get? b = some o) : IsT h' v ns := by
  obtain ⟨a, o, items, n, h1, h2, h3, h4, as, h5⟩ := t
  exact ⟨a, o, items, n, h1, e _ _ h2, h3, h4, as, readsAll_ints h5⟩
theorem IsT.reads {h : Heap} {v : Value} {ns : List Int} (t : IsT h v ns) : ∃ as, Reads h v (.tuple (ns.map PyData.int)) as := by
  obtain ⟨a, o, items, n, rfl, h2, h3, h4, as, h5⟩ := t
  exact ⟨as, .tuple h2 h3 h4 h5⟩
theorem IsT.of {h : Heap} {v : Value} {ns : List Int} {as : List Addr} (r : Reads h v (.tuple (ns.map PyData.int)) as) : IsT h v ns := by
  cases r with
  | tuple h1 h2 h3 h4 => exact ⟨_, _, _, _, rfl, h1, h2, h3, _, h4⟩
theorem alike_ints : ∀ a b : List Int, W.alikeAll (a.map PyData.int) (b.map PyData.int) = true
  | [], b => by cases b <;> rfl
  | _ :: _, [] => rfl
  | x :: a, y :: b => by
    rw [List.map_cons, List.map_cons]
    show (true && W.alikeAll _ _) = true
    rw [alike_ints a b]; rfl
theorem map_int_inj : ∀ {a b : List Int}, a.map PyData.int = b.map PyData.int → a = b
  | [], [], _ => rfl
  | [], _ :: _, h => by cases h
  | _ :: _, [], h => by cases h
  | x :: a, y :: b, h => by
    rw [List.map_cons, List.map_cons] at h
    injection h with h1 h2
    injection h1 with h1
    rw [h1, map_int_inj h2]
theorem IsT.inj {h : Heap} {v : Value} {a b : List Int} (t : IsT h v a) (u : IsT h v b) : a = b := by
  obtain ⟨as, r⟩ := t.reads
  obtain ⟨bs, q⟩ := u.reads
  have := W.alike_unique (.tuple (a.map PyData.int)) (.tuple (b.map PyData.int)) v as bs (alike_ints a b) r q
  injection this with this
  exact map_int_inj this
open Classical in
noncomputable def rdT (h : Heap) (v : Value) : List Int := if e : ∃ ns, IsT h v ns then e.choose else []
theorem rdT_eq {h : Heap} {v : Value} {ns : List Int} (t : IsT h v ns) : rdT h v = ns := by
  unfold rdT
  have e : ∃ ns, IsT h v ns := ⟨ns, t⟩
  rw [dif_pos e]
  exact e.choose_spec.inj t
noncomputable def ltT (h : Heap) (v u : Value) : Bool := !leD (tupI (rdT h u)) (tupI (rdT h v))
theorem swoT (h : Heap) : SrtO.Swo (ltT h) := by
  refine ⟨fun x y e => ?_, fun x y z e1 e2 => ?_⟩
  · unfold ltT at e ⊢
    rcases leD_total.total (tupI (rdT h x)) (tupI (rdT h y)) with q | q
    · rw [q]; rfl
    · rw [q] at e; cases e
  · unfold ltT at e1 e2 ⊢
    simp only [Bool.not_eq_false'] at e1 e2 ⊢
    exact leD_total.trans _ _ _ e1 e2
theorem depth_ints : ∀ ns : List Int, PyData.depthAll (ns.map PyData.int) = 0
  | [] => rfl
  | n :: ns => by
    rw [List.map_cons, PyData.depthAll, depth_ints ns]
    rfl
theorem ltT_is {h : Heap} {v u : Value} {a b : List Int} (t : IsT h v a) (q : IsT h u b) : ltT h v u = W.dataLt (.tuple (a.map PyData.int)) (.tuple (b.map PyData.int)) := by
  unfold ltT
  rw [rdT_eq t, rdT_eq q]
  show (!!W.dataLt (py (tupI a)) (py (tupI b))) = _
  rw [Bool.not_not, py_tupI, py_tupI]
theorem sortableT {prog : Program} {w : World} {A : Around} {s : Shared} {a : Addr} {h0 : Heap} {v0 : Value} {rest : List Value} (hu : A.units + 3 < cLine) (ht : ∀ v ∈ v0 :: rest, ∃ ns, IsT h0 v ns) (h00 : IsT h0 v0 []) (hs : ∀ b o, h0.get? b = some o → b ≠ a ∧ s.heap.get? b = some o) : SrtO.SortableO prog w A s a (v0 :: rest) (ltT h0) := by
  intro h' hh
  have keep : ∀ b o, h0.get? b = some o → h'.get? b = some o := fun b o z => hh b o (hs b o z).1 (hs b o z).2
  refine ⟨oneType', fun Q E hq => kind_tupE (fun v hv => ?_) ?_ hq, fun p q hp hq => ?_⟩
  · obtain ⟨ns, t⟩ := ht v hv
    obtain ⟨b, o, items, n, h1, h2, h3, h4, _⟩ := t.mono keep
    exact ⟨b, o, items, n, h1, h2, h3, h4⟩
  · obtain ⟨b, o, items, n, rfl, h2, h3, h4, as, h5⟩ := h00.mono keep
    unfold itemsV
    simp only [h2, h4]
    have e := SeqAt.ReadsAll.length _ _ _ h5
    rw [List.map_nil, List.length_nil] at e
    exact List.eq_nil_of_length_eq_zero e
  · obtain ⟨x, tx⟩ := ht p.1 hp
    obtain ⟨y, ty⟩ := ht q.1 hq
    obtain ⟨as, rx⟩ := (tx.mono keep).reads
    obtain ⟨bs, ry⟩ := (ty.mono keep).reads
    rw [PyProof.Rows.keyLt'_oneType]
    refine oneLt_tup rx ry (alike_ints x y) ?_ ⟨rfl, ?_⟩
    · have d1 : (PyData.tuple (x.map PyData.int)).depth ≤ 1 := by rw [PyData.depth, depth_ints]; exact Nat.le_refl _
      have := Nat.min_le_left (PyData.tuple (x.map PyData.int)).depth (PyData.tuple (y.map PyData.int)).depth
      omega
    · show _ = ltT h0 p.1 q.1
      exact (ltT_is tx ty).symm
theorem out_sorted {h : Heap} {vs out : List Value} (hs : SrtO.Srtd (ltT h) out) (hb : SrtO.Stb (ltT h) out vs) : out.map (fun v => tupI (rdT h v)) = srtD (vs.map fun v => tupI (rdT h v)) := by
  rw [srtD_merge]
  refine PySem.W.sort_unique leD_total ?_ fun c => ?_
  · rw [List.pairwise_map]
    refine hs.imp fun {x y} e => ?_
    unfold ltT at e
    simpa using e
  · rw [List.filter_map, List.filter_map]
    by_cases hx : ∃ x ∈ out, W.sameRank leD c (tupI (rdT h x)) = true
    · obtain ⟨x, _, hc⟩ := hx
      unfold W.sameRank at hc
      rw [Bool.and_eq_true] at hc
      have e : ∀ l : List Value, l.filter (W.sameRank leD c ∘ fun v => tupI (rdT h v)) = l.filter (SrtO.eqv (ltT h) x) := fun l => by
        refine List.filter_congr fun v _ => ?_
        show (leD c (tupI (rdT h v)) && leD (tupI (rdT h v)) c) = (!ltT h x v && !ltT h v x)
        unfold ltT
        rw [Bool.not_not, Bool.not_not, Bool.and_comm]
        have q1 : leD (tupI (rdT h v)) c = leD (tupI (rdT h v)) (tupI (rdT h x)) := by
          rw [Bool.eq_iff_iff]
          exact ⟨fun z => leD_total.trans _ _ _ z hc.1, fun z => leD_total.trans _ _ _ z hc.2⟩
        have q2 : leD c (tupI (rdT h v)) = leD (tupI (rdT h x)) (tupI (rdT h v)) := by
          rw [Bool.eq_iff_iff]
          exact ⟨fun z => leD_total.trans _ _ _ hc.2 z, fun z => leD_total.trans _ _ _ hc.1 z⟩
        rw [q1, q2]
      rw [e, e, hb.cls x]
    · have e : ∀ l : List Value, (∀ v ∈ l, v ∈ out) → l.filter (W.sameRank leD c ∘ fun v => tupI (rdT h v)) = [] := fun l hl => by
        rw [List.filter_eq_nil_iff]
        intro v hv q
        exact hx ⟨v, hl v hv, q⟩
      rw [e out fun _ z => z, e vs fun v z => hb.perm.mem_iff.mpr z]

theorem canLay_ints : ∀ ns : List Int, PyData.canLayAll0 (ns.map PyData.int) = true
  | [] => rfl
  | n :: ns => by
    rw [List.map_cons, PyData.canLayAll0, canLay_ints ns]
    rfl
theorem canLay_tupI (ns : List Int) : (py (tupI ns)).canLay0 = true := by
  rw [py_tupI, PyData.canLay0]
  exact canLay_ints ns
def rSortedE (K : PySem.W.Frag) : List V → Hp → VK → Prop := fun vs H Q => ∃ (a : Addr) (S : Hp) (xs : List V) (nss : List (List Int)), vs = [.ref a] ∧ SqL K H a xs ∧ (∀ a o, S a = some o → H a = some o) ∧ Reps K S [] xs (([] :: nss).map tupI) ∧ nss.length + 1 ≤ sizeLine ∧
  ∀ (ys : List V) (l : Addr), ys.length = xs.length → Reps K S [] ys (srtD (([] :: nss).map tupI)) → H l = none → Q (.ref l) (upd H l (.lst ys))
theorem each_isT {X : Cx} {pins : List (Addr × Obj)} {σ : St} {H S : Hp} {s : Shared} (I : Inv X pins σ H s) (sub : ∀ a o, S a = some o → H a = some o) : ∀ {xs : List V} {us : List Value} {nss : List (List Int)}, Reps X.K S [] xs (nss.map tupI) → Vals xs us →
    us.length = nss.length ∧ (us.map fun u => tupI (rdT s.heap u)) = nss.map tupI ∧ ∀ u ∈ us, (∃ ns, IsT s.heap u ns) ∧ ∃ x, RelV x u ∧ Rep X.K S [] x (tupI (rdT s.heap u))
  | _, _, [], .nil, .nil => ⟨rfl, rfl, fun u hu => by cases hu⟩
  | _, _, ns :: nss, .cons (v := x) h r, .cons (b := u) q t => by
    obtain ⟨l1, l2, l3⟩ := each_isT I sub r t
    obtain ⟨as, rd⟩ := Dp.reads I _ x u ((h.mono sub fun _ _ z => z).dp (.inr (canLay_tupI ns))) q
    rw [py_tupI] at rd
    have it := IsT.of rd
    refine ⟨by simp [l1], by rw [List.map_cons, List.map_cons, l2, rdT_eq it], fun v hv => ?_⟩
    rcases List.mem_cons.mp hv with rfl | hv
    · exact ⟨⟨ns, it⟩, x, q, by rw [rdT_eq it]; exact h⟩
    · exact l3 v hv
theorem reps_out {K : PySem.W.Frag} {S : Hp} {f : Value → D} : ∀ {out : List Value}, (∀ u ∈ out, ∃ x, RelV x u ∧ Rep K S [] x (f u)) → ∃ ys, Vals ys out ∧ Reps K S [] ys (out.map f)
  | [], _ => ⟨[], .nil, .nil⟩
  | u :: out, h => by
    obtain ⟨x, h1, h2⟩ := h u List.mem_cons_self
    obtain ⟨ys, h3, h4⟩ := reps_out fun v hv => h v (List.mem_cons_of_mem _ hv)
    exact ⟨x :: ys, .cons h1 h3, .cons h2 h4⟩
theorem cr_sortedE {X : Cx} (hu : X.A.units + 64 < cLine) : CallR X (.builtin "sorted") (rSortedE X.K) := by
  intro pins s σ H vs us Q I r h
  obtain ⟨a, S, xs, nss, rfl, hs, hS, hr, hl, q⟩ := h
  obtain ⟨its, rv, pl, _⟩ := I.list hs
  rw [Vals.ref1 r]
  obtain ⟨l1, l2, l3⟩ := each_isT I hS hr rv
  have lits : its.length = nss.length + 1 := by rw [l1, List.length_cons]
  cases its with
  | nil => cases lits
  | cons v0 rest =>
    have h00 : IsT s.heap v0 [] := by
      obtain ⟨⟨ns, t⟩, _⟩ := l3 v0 List.mem_cons_self
      rw [List.map_cons, List.map_cons, rdT_eq t] at l2
      injection l2 with l2 _
      have e : ns.map D.int = [] := by
        have := congrArg (fun d => match d with | .tup zs => zs | _ => []) l2
        exact this
      rw [List.map_eq_nil_iff] at e
      rw [← e]
      exact t
    refine SrtO.sorted_ord (swoT s.heap) pl.isList (by rw [lits]; exact hl) (fun h2 h₁ b g1 g2 => ?_) fun out srtd stb => ?_
    · refine sortableT (by show X.A.units + 1 + 1 + 3 < cLine; omega) (fun v hv => (l3 v hv).1) h00 fun c o z => g2 c o z
    · have e := out_sorted srtd stb
      rw [l2] at e
      obtain ⟨ys, h3, h4⟩ := reps_out (K := X.K) (S := S) (f := fun v => tupI (rdT s.heap v)) (out := out) fun u hu => (l3 u (stb.perm.mem_iff.mp hu)).2
      rw [e] at h4
      obtain ⟨ep, he'⟩ := PyProof.Rows.sortedAll_at s.heap (v0 :: rest) out.toArray
      have e1 : ys.length = nss.length + 1 := by rw [h3.length, stb.perm.length_eq, lits]
      have e2 : xs.length = nss.length + 1 := by rw [hr.length, List.length_map, List.length_cons]
      exact ⟨.ref _, upd H (s.heap.objs.size + 1) (.lst ys), I.laid (t' := s.toks) (fun _ _ => PyProof.Rows.sortedAll_old) (Nat.le_succ _) ⟨by rw [e1]; exact hl, out, ep, h3, he'⟩, rfl, q ys _ (by rw [e1, e2]) h4 (I.hok.fresh (Nat.le_succ _))⟩
def isTI : D → Bool
  | .tup xs => allInt xs
  | _ => false
def tupE : List D → Bool
  | .tup [] :: ds => ds.all isTI
  | _ => false
theorem tupE_some : ∀ {ds : List D}, ds.all isTI = true → ∃ nss : List (List Int), ds = nss.map tupI
  | [], _ => ⟨[], rfl⟩
  | d :: ds, h => by
    rw [List.all_cons, Bool.and_eq_true] at h
    obtain ⟨nss, e⟩ := tupE_some h.2
    cases d with
    | tup xs =>
      obtain ⟨ns, e2⟩ := allInt_some (ds := xs) h.1
      exact ⟨ns :: nss, by rw [e, e2]; rfl⟩
    | _ => cases h.1
theorem tupE_is {ds : List D} (h : tupE ds = true) : ∃ nss : List (List Int), ds = ([] :: nss).map tupI := by
  match ds, h with
  | .tup [] :: ds, h =>
    obtain ⟨nss, e⟩ := tupE_some h
    exact ⟨nss, by rw [e]; rfl⟩
def gSortedT (M : List MO) : List D → Option D
  | [d] => (asR M d).bind fun xs => if ((srtOk xs || tupE xs) && lim xs.length && nls xs) = true then some (.lst (srtD xs)) else none
  | _ => none
theorem rc_sortedT {G : Gx} : RC G (fun vs H Q => rSortedD G.K vs H Q ∨ rSortedE G.K vs H Q) gSortedT := by
  intro p M xs ds z ok r h Q k
  match ds, h with
  | [d], h =>
    obtain ⟨ys, h1, h⟩ := bind_some h
    split at h
    · rename_i hs
      cases h
      simp only [Bool.and_eq_true, Bool.or_eq_true] at hs
      obtain ⟨x, rfl, rx⟩ := one_rep r
      obtain ⟨a, us, rfl, h3, h4⟩ := asR_ok ok rx h1
      rcases hs.1.1 with hq | hq
      · refine .inl ⟨a, p.S, us, ys, rfl, h3, ok.sub, h4.of_nl hs.2, hq, lim_line hs.1.2, fun vs l _ h5 hl => ?_⟩
        have l2 : Le p (p.shd l (.lst vs)) := Le.shd hl (ok.S_none hl)
        exact k (p.shd l (.lst vs)) (.ref l) l2 rfl (ok.shd hl) (.lst upd_same (Reps.mono l2.sh (fun _ _ z => by simp at z) h5))
      · obtain ⟨nss, e2⟩ := tupE_is hq
        have hl := lim_line hs.1.2
        have hn := hs.2
        subst e2
        refine .inr ⟨a, p.S, us, nss, rfl, h3, ok.sub, h4.of_nl hn, by simpa using hl, fun vs l _ h5 hl => ?_⟩
        have l2 : Le p (p.shd l (.lst vs)) := Le.shd hl (ok.S_none hl)
        exact k (p.shd l (.lst vs)) (.ref l) l2 rfl (ok.shd hl) (.lst upd_same (Reps.mono l2.sh (fun _ _ z => by simp at z) h5))
    · cases h
section
variable {X : Cx} {e : Expr} {pos : Pos} {fa : FE}
theorem se_sortedT {q : Pos} (hu : X.A.units + 66 < cLine) (hm : X.mg "sorted" = none) (ha : SE X e fa) (hg : Gl X "sorted" := by rfl) (he : starEach [e] X.env = (false, eval e X.env) :: starEach [] X.env := by rfl) (hpl : (backTo pos (starEach [] X.env)).any (·.1) = false := by rfl) :
    SE X (.Call (.Name "sorted" q) [e] [] pos) (eCall gSortedT (aCons fa aNil)) :=
  se_callB (CallR.or (cr_sortedD (by omega)) (cr_sortedE (by omega))) rc_sortedT hg hm (by decide +kernel) (sa_cons ha sa_nil he) (by decide) (by decide) he hpl
end
end BX

set_option Elab.async false
set_option linter.all false
set_option maxRecDepth 100000
set_option maxHeartbeats 2000000
/-! BX35: xs[::-1]. -/
namespace BX
open PySem L2
def eRev (a : FE) (env : En) (M : List MO) : Option (D × List MO) := (a env M).bind fun r => (asR r.2 r.1).map fun xs => (.lst xs.reverse, r.2)
section
variable {X : Cx} {a : Expr} {pos p1 p2 p3 : Pos} {fa : FE} {k : Nat}
theorem se_rev (ha : SE X a fa) : SE X (.Subscript a (.Slice none none (some (.UnaryOp .USub (.Constant (.int 1) k p1) p2)) p3) pos) (eRev fa) := by
  obtain ⟨ta, pa, va⟩ := ha.ex
  refine ⟨_, pe_revL pa, fun p env M σ d M' ok er h Q kk => ?_⟩
  obtain ⟨⟨d1, M1⟩, e1, h⟩ := bind_some h
  obtain ⟨xs, e4, h⟩ := map_some h
  cases h
  refine va p env M σ _ _ ok er e1 _ fun q x l1 m1 ok1 x1 => ?_
  obtain ⟨a, us, rfl, h3, h4⟩ := asR_ok ok1 x1 e4
  refine ⟨a, us, rfl, h3, fun l hl => ?_⟩
  have l4 : Le q (q.shd l (.lst us.reverse)) := Le.shd hl (ok1.S_none hl)
  exact kk (q.shd l (.lst us.reverse)) (.ref l) (l1.trans l4) m1 (ok1.shd hl) (.lst upd_same (l4.reps h4.reverse))
end
end BX

set_option Elab.async false
set_option linter.all false
set_option maxRecDepth 100000
set_option maxHeartbeats 2000000
/-! BX36: calls with the lists told as they stand that hand back a new list, kept. -/
namespace BX
open PySem L2
def eCallL (F : Fn) (args : FA) (env : En) (M : List MO) : Option (D × List MO) := (args env M).bind fun r => (rsvs (lkp 4 r.2) r.1).bind fun ds => (F ds []).bind fun o => match o with
  | .rt (.loc k) M' => match M'[k]? with
    | some (.lst es) => (rsRs (lkX k 4 M') es).map fun us => (.loc r.2.length, r.2 ++ [.lst us])
    | _ => none
  | _ => none
theorem ev_callL {G : Gx} {ta : TA} {E : XK} {fs : FA} {F : Fn} {np : Nat} {cls : Nat → Value} (h : EvA G ta fs) (hn : ∀ env M ds M', fs env M = some (ds, M') → ds.length = np) : Ev G (tCall (spF G cls np F) [] E ta) (eCallL F fs) := by
  intro p env M σ d N ok er h1 Q kk
  obtain ⟨⟨ds, M1⟩, e1, h1⟩ := bind_some h1
  obtain ⟨ds', e2, h1⟩ := bind_some h1
  obtain ⟨o, e4, h1⟩ := bind_some h1
  split at h1
  · rename_i kb M'
    split at h1
    · rename_i es e6
      obtain ⟨us, e5, h1⟩ := map_some h1
      cases h1
      refine h p env M σ ds _ ok er e1 _ fun q xs l m ok1 r => ?_
      have ra : Reps G.K (frzS q) [] xs ds' := rsvs_ok (p := q) (fun a o z => by unfold frzS; rw [z]) (lkS_ok ok1 4) r e2
      refine ⟨⟨[], frzS q, q.H⟩, [], ds', .rt _ M', ?_, rfl, frz_ok ok1, by rw [List.append_nil]; exact ra, e4, fun w y l2 ok2 ry => ?_⟩
      · rw [List.append_nil, r.length]
        exact hn _ _ _ _ e1
      · cases ry with
        | @loc b _ hb =>
          obtain ⟨ys, g5, g6⟩ := ok2.lst hb e6
          have hSb : w.S b = none := ok2.apart b (List.mem_of_getElem? hb)
          have gr : Reps G.K (objS q w b) (q.m ++ [b]) ys us := rsRs_ok (fun c us z => objS_some hSb z (aft_tup ok1 l2 z)) (lkX_ok ok1 l2 ok2 hb 4) g6 e5
          obtain ⟨l3, ok3⟩ := obj_ok ok1 l2 ok2 hb g5 gr
          refine kk ⟨q.m ++ [b], objS q w b, w.H⟩ (.ref b) (l.trans l3) rfl ok3 (.loc ?_)
          show (q.m ++ [b])[M1.length]? = some b
          rw [← ok1.len, List.getElem?_append_right (Nat.le_refl _), Nat.sub_self]
          rfl
    · cases h1
  · cases h1
section
variable {X : Cx} {e : Expr} {es : List Expr} {pos : Pos} {fs : FA} {x : Str} {k : Nat} {ps : List Str} {F : Fn} {cls : Nat → Value}
theorem se_callL {q : Pos} {n : Nat} (c : Cal X.prog X.w X.K X.mg X.base k x ps (spF (gx X) cls n F)) (ha : SAn X (e :: es) fs n) (hr : Room k X.A) (hg : Gl X x) (hdb : (x == ("__debug__" : Str)) = false := by decide)
    (he : starEach (e :: es) X.env = (false, eval e X.env) :: starEach es X.env := by rfl) (hpl : (backTo pos (starEach es X.env)).any (·.1) = false := by rfl) : SE X (.Call (.Name x q) (e :: es) [] pos) (eCallL F fs) := by
  obtain ⟨t, pt, vt⟩ := ha.a.ex
  obtain ⟨f, fd, F1, hm, hk, hb⟩ := c.ex
  exact ⟨_, pe_call F1 hr hg hm hk hb .nil pass0 pt hdb he hpl, ev_callL vt ha.n⟩
end
end BX

set_option Elab.async false
set_option linter.all false
set_option maxRecDepth 100000
set_option maxHeartbeats 2000000
/-! BX37: defs that may raise; the error in hand. -/
namespace BX
open PySem L2 PySem.Spec PyProof.Rows
def fRaise (c : Nat) (_ : En) (_ : List MO) : Option Out := some (.ex c)
def runX (n : Nat) (body : FS) : Fn := fun args M => (body (args.map some ++ List.replicate (n - args.length) none) M).bind fun o => match o with
  | .nx _ m => some (.rt .non m)
  | .rt d m => some (.rt d m)
  | .ex c => some (.ex c)
  | _ => none
/-- what an error of number c asks of the context -/
abbrev wX (cls : Nat → Value) (E : XK) : Nat → Hp → Prop := fun c H => E (cls c) none H
section
variable {P : Program} {w : World} {K : PySem.W.Frag} {mg : Str → Option Value} {base : Heap} {x qual : Str} {st : Stmt} {f : Addr} {fd : FuncData} {N ps : List Str} {k : Nat} {cls : Nat → Value}
theorem ss_raise {X : Cx} {E : XK} {e : Expr} {pos : Pos} {c : Nat} (hc : X.calm = true) (tk : L2N.Takes X fun v d _ H => E v d H) (hk : L2N.PMk X e fun _ H Q => Q (cls c) none H) : SS X (wX cls E) (.Raise (some e) none pos) (fRaise c) :=
  ⟨_, L2N.ps_raise hc tk hk, fun p env M σ o ok er h D k => by cases h; exact k p (.refl p)⟩
/-- an own error class, made with a text -/
structure ErrC (K : PySem.W.Frag) (mg : Str → Option Value) (x : Str) (C : Addr) : Prop where
  ex : ∃ (bmB : List Value) (B newId initId : String), ExcBaseFacts B newId initId bmB ∧ PySem.W.excIn K C bmB newId = true
  g : mg x = some (.ref C)
  k : PySem.W.keepIn K (.ref C) = true
  s : PySem.W.subIn K (.ref C) (.type "BaseException") = some true
  t : PySem.W.typeIn K (.ref C) = some (.type "type")
theorem ErrC.mk1 {X : Cx} {x m : Str} {j : Nat} {p p2 pos : Pos} {C : Addr} (h : ErrC X.K X.mg x C) (hg : Gl X x) (hdb : (x == ("__debug__" : Str)) = false := by decide) : L2N.PMk X (.Call (.Name x p) [.Constant (.str m) j p2] [] pos) fun _ H Q => Q (.ref C) none H := by
  obtain ⟨bmB, B, n, i, F, q⟩ := h.ex
  exact L2N.pmk_own F q h.g h.k (raises_own h.s h.t) hg hdb
theorem fn_okX (F : Fun K x qual st f fd) (S : FnScope N ps (defScope st)) {body : FS}
    (hb : ∀ (cdv : Value) (A : Around) (outer : List Env) (s : Shared) (H : Hp) (E : XK), Room k (A.deeper (envOfC qual (defScope st) s.heap.objs.size f cdv)) →
      SB (cxOf (L2N.CX P w) P w K mg base N qual (defScope st) f cdv A outer s H E) (wX cls E) (defBody st) body) :
    FnOk P w K mg base (L2N.CX P w) (k + 1) f fd ps (spF ⟨P, w, K⟩ cls ps.length (runX N.length body)) := by
  obtain ⟨oc, od, kV, doc, pm, an, cdv, ct, osl, rfl, lk, hcd⟩ := F.ex
  refine fn_of lk hcd S (fun vs H Q E h => ?_) fun A outer s H vs Q E hr h => ?_
  · obtain ⟨p, M, ds, o, e, _⟩ := h
    exact e
  · obtain ⟨p, M, ds, o, e0, rfl, ok, r, e1, ko⟩ := h
    obtain ⟨t, pt, vt⟩ := (hb cdv A outer s p.H E hr).ex
    refine ⟨t, pt, ?_⟩
    obtain ⟨o1, e2, e3⟩ := bind_some e1
    have er : EnvR ⟨P, w, K⟩ p (ds.map some ++ List.replicate (N.length - ds.length) none) (L2.start N vs) := by
      have h1 := envR_start r (N.length - ds.length)
      unfold L2.start
      rw [r.length]
      exact h1
    refine vt p _ M _ o1 ok er e2 _ ?_
    cases o1 with
    | nx en M1 =>
      cases e3
      exact fun q σ l ok1 _ => ko q .non l ok1 .non
    | rt d M1 =>
      cases e3
      exact fun q y l ok1 rx => ko q y l ok1 rx
    | ex c =>
      cases e3
      exact fun q l => ko q l
    | _ => cases e3
theorem takes_fn {qual : Str} {scope : Scope} {f : Addr} {cd : Value} {A : Around} {outer : List Env} {s : Shared} {H : Hp} {E : XK} : L2N.Takes (cxOf (L2N.CX P w) P w K mg base N qual scope f cd A outer s H E) fun v d _ H => E v d H := L2N.takes_of rfl rfl rfl rfl
end
/-- what a caller knows of a def that may raise -/
structure XCal (P : Program) (w : World) (K : PySem.W.Frag) (mg : Str → Option Value) (base : Heap) (k : Nat) (x : Str) (ps : List Str) (sp : Sp) : Prop where
  ex : ∃ (f : Addr) (fd : FuncData), FnOk P w K mg base (L2N.CX P w) k f fd ps sp ∧ mg x = some (.ref f) ∧ PySem.W.keepIn K (.ref f) = true ∧ Binds K fd ps []
/-! ### isinstance of the error in hand -/
def eIsE (i : Nat) (a : Addr) (b : Bool) (env : En) (M : List MO) : Option (D × List MO) := match env[i]? with
  | some (some (.exn a')) => if a' = a then some (.bl b, M) else none
  | _ => none
section
variable {X : Cx} {a D0 : Addr} {oe : Obj} {pn : List (Addr × Obj)}
theorem se_isE {q q2 q3 pos : Pos} {n x : Str} {i : Nat} {b : Bool} {C' : Addr} (hz : Zc (.ref D0) none oe) (hf : ∃ vs, oe.data = .fields vs) (hC : ExcC X.K D0) (hn : SE (X.suite a ((a, oe) :: pn)) (.Name n q3) (eVar i)) (hm : X.mg "isinstance" = none) (hx : X.mg x = some (.ref C')) (hb : PySem.W.kitOne X.K (.ref D0) (.ref C') = some b)
    (hg : Gl (X.suite a ((a, oe) :: pn)) "isinstance" := by rfl) (hg2 : Gl (X.suite a ((a, oe) :: pn)) x := by rfl) (hd2 : (x == ("__debug__" : Str)) = false := by decide)
    (he : starEach [.Name n q3, .Name x q2] X.env = (false, eval (.Name n q3) X.env) :: starEach [.Name x q2] X.env := by rfl) (he2 : starEach [.Name x q2] X.env = (false, eval (.Name x q2) X.env) :: starEach [] X.env := by rfl) (hpl : (backTo pos (starEach [.Name x q2] X.env)).any (·.1) = false := by rfl) :
    SE (X.suite a ((a, oe) :: pn)) (.Call (.Name "isinstance" q) [.Name n q3, .Name x q2] [] pos) (eIsE i a b) := by
  obtain ⟨ta, pa, va⟩ := hn.ex
  refine ⟨_, pe_callB (X := X.suite a ((a, oe) :: pn)) (call_isE hC hz hf) hg hm (by decide +kernel) (pa_cons pa (pa_cons (pe_glob (v := .ref C') hg2 hx rfl hd2) pa_nil he2) he) (by decide) (by decide) he hpl, fun p env M σ d M' ok er h Q k => ?_⟩
  unfold eIsE at h
  split at h
  · rename_i a' e1
    split at h
    · rename_i e2
      subst e2
      cases h
      refine va p env M σ (.exn a') M ok er (by rw [eVar, e1]) _ fun q x l m ok1 rx => ?_
      cases rx
      exact ⟨.ref C', .ref C', b, rfl, fun u r => r, hb, k q _ l m ok1 (.bl b)⟩
    · cases h
  · cases h
/-- isinstance(error, a built-in class) -/
theorem se_isEb {q q2 q3 pos : Pos} {n x : Str} {T : String} {i : Nat} {b : Bool} (hz : Zc (.ref D0) none oe) (hf : ∃ vs, oe.data = .fields vs) (hC : ExcC X.K D0) (hn : SE (X.suite a ((a, oe) :: pn)) (.Name n q3) (eVar i)) (hm : X.mg "isinstance" = none) (hm2 : X.mg x = none) (hv2 : bootBuiltins x = some (.type T)) (hb : PySem.W.kitOne X.K (.ref D0) (.type T) = some b)
    (hg : Gl (X.suite a ((a, oe) :: pn)) "isinstance" := by rfl) (hg2 : Gl (X.suite a ((a, oe) :: pn)) x := by rfl) (hn2 : x ≠ "__name__" := by decide) (hd2 : (x == ("__debug__" : Str)) = false := by decide)
    (he : starEach [.Name n q3, .Name x q2] X.env = (false, eval (.Name n q3) X.env) :: starEach [.Name x q2] X.env := by rfl) (he2 : starEach [.Name x q2] X.env = (false, eval (.Name x q2) X.env) :: starEach [] X.env := by rfl) (hpl : (backTo pos (starEach [.Name x q2] X.env)).any (·.1) = false := by rfl) :
    SE (X.suite a ((a, oe) :: pn)) (.Call (.Name "isinstance" q) [.Name n q3, .Name x q2] [] pos) (eIsE i a b) := by
  obtain ⟨ta, pa, va⟩ := hn.ex
  refine ⟨_, pe_callB (X := X.suite a ((a, oe) :: pn)) (call_isE hC hz hf) hg hm (by decide +kernel) (pa_cons pa (pa_cons (pe_bltn (v := .ty T) hg2 hm2 hv2 rfl hn2 hd2) pa_nil he2) he) (by decide) (by decide) he hpl, fun p env M σ d M' ok er h Q k => ?_⟩
  unfold eIsE at h
  split at h
  · rename_i a' e1
    split at h
    · rename_i e2
      subst e2
      cases h
      refine va p env M σ (.exn a') M ok er (by rw [eVar, e1]) _ fun q x l m ok1 rx => ?_
      cases rx
      exact ⟨.ty T, .type T, b, rfl, fun u r => r, hb, k q _ l m ok1 (.bl b)⟩
    · cases h
  · cases h
end
end BX

set_option Elab.async false
set_option linter.all false
set_option maxRecDepth 100000
set_option maxHeartbeats 2000000
/-! BX38: a lambda with one parameter, its captured names, called in a def that got it. -/
namespace BX
open PySem L2 PySem.Spec PyProof.Rows LamX
/-- a lambda's names: its parameter, captured ones, globals -/
structure Lam1 (sc scope : Scope) (pn : Str) : Prop where
  kind : scope.kind = .function
  co : scope.isCoroutine = false
  gen : scope.isGenerator = false
  par : scope.names.lookup pn = some .local
  own : ∀ y ∈ scope.names, y.2 ≠ .cell ∧ (y.2 = .local → y.1 = pn)
  free : ∀ y ∈ scope.names, y.2 = .free → sc.names.lookup y.1 = some .cell ∨ sc.names.lookup y.1 = some .free
def lam1B (sc scope : Scope) (pn : Str) : Bool :=
  decide (scope.kind = .function) && (!scope.isCoroutine && (!scope.isGenerator && (decide (scope.names.lookup pn = some .local) &&
    scope.names.all fun y => !decide (y.2 = .cell) && ((!decide (y.2 = .local) || decide (y.1 = pn)) && (!decide (y.2 = .free) || (decide (sc.names.lookup y.1 = some .cell) || decide (sc.names.lookup y.1 = some .free)))))))
theorem lam1_by {sc scope : Scope} {pn : Str} (h : lam1B sc scope pn = true) : Lam1 sc scope pn := by
  unfold lam1B at h
  simp only [Bool.and_eq_true, Bool.or_eq_true, Bool.not_eq_true', decide_eq_true_eq, decide_eq_false_iff_not, List.all_eq_true] at h
  obtain ⟨k1, k2, k3, k4, k5⟩ := h
  exact ⟨k1, k2, k3, k4, fun y hy => ⟨(k5 y hy).1, fun e => ((k5 y hy).2.1).resolve_left fun z => z e⟩, fun y hy e => ((k5 y hy).2.2).resolve_left fun z => z e⟩
abbrev lamC (X : Cx) (pn : Str) (A : Around) (outer : List Env) (s : Shared) (H : Hp) (E : XK) (scope : Scope) (f c' : Addr) : Cx := { lamCx X A outer s H E scope f c' with
    N := pn :: X.N
    xe := fun e s' => wpAny (model X.prog X.w) (A.deeper (lamEnv X scope s.heap.objs.size f c')) (leaving (lamEnv X scope s.heap.objs.size f c') e) (fun _ s'' => L2N.CX X.prog X.w outer H s E e s'') (fun e' s'' => L2N.CX X.prog X.w outer H s E e' s'') s' }
section
variable {X : Cx} {pins : List (Addr × Obj)} {σ : L2.St} {H HZ : Hp} {s s1 : Shared} {pn : Str}
theorem Lam1.has {scope : Scope} (L : Lam1 X.env.scope scope pn) (ok : X.Ok) : ∀ y ∈ scope.names, y.2 = .free → ∃ c, X.env.cells.lookup y.1 = some c := fun y hy e => ok.has _ (L.free y hy e)
theorem lam1_start {A : Around} {outer : List Env} {E : XK} {scope : Scope} {f c' : Addr} {hq : Heap} {tk : Nat} {x : V} {u : Value} (I : Inv X pins σ H s) (L : Lam1 X.env.scope scope pn) (hnp : pn ∉ X.N) (e0 : Env0 X.prog X.w X.K X.mg X.base A outer s1 HZ) (hd : A.handled = none)
    (un : Un (frs X.stack) [] H HZ s.heap s1.heap) (hns : hq.Ns s1.heap.objs.size fun y => ([(pn, u)] : List (Str × Value)).reverse.lookup y) (rx : L2.RelV x u) (kp : ∀ b o, s1.heap.get? b = some o → hq.get? b = some o) :
    Inv (lamC X pn A outer s1 HZ E scope f c') [] (some x :: σ) HZ { s1 with heap := hq, toks := tk } := by
  have hfr := L.has I.ok
  have toX : ∀ {y c}, (cloFrom X.env.cells scope.names []).lookup y = some c → X.env.cells.lookup y = some c := fun {y c} e => by
    rcases cloFrom_mem (PySem.mem_of_lookup e) with hm | ⟨h1, h2⟩
    · cases hm
    · obtain ⟨c1, hc⟩ := hfr _ h1 rfl
      have hc' : X.env.cells.lookup y = some c1 := hc
      have e2 : c = c1 := by rw [h2, hc'] <;> rfl
      rw [e2]
      exact hc'
  have get : ∀ {y}, scope.names.lookup y = some .free → ∃ c, (cloFrom X.env.cells scope.names []).lookup y = some c := fun {y} hl =>
    mem_lookup (cloFrom_has (cells := X.env.cells) (acc := []) (PySem.mem_of_lookup hl))
  have cellQ : ∀ {c : Addr} {v : Option Value}, H c = none → s.heap.IsCell c v → hq.IsCell c v := fun {c v} n ⟨o, ho, hdt⟩ => by
    obtain ⟨sl, q⟩ := un.any ho n (by simp)
    exact ⟨_, kp _ _ q, hdt⟩
  have noE : ∀ b : Addr, b ∉ (lamC X pn A outer s1 HZ E scope f c').ex := fun b z => absurd (show b ∈ ([] : List Addr) from z) (by simp)
  have okC : (lamC X pn A outer s1 HZ E scope f c').Ok :=
    { mod := e0.mod, kind := L.kind, glob := rfl, blt := rfl, above := Nat.le_refl _
      inj := fun y z c e1 e2 => I.ok.inj y z c (toX e1) (toX e2)
      has := fun y hy => by
        have hy' : scope.names.lookup y = some .cell ∨ scope.names.lookup y = some .free := hy
        rcases hy' with k | k
        · exact absurd rfl (L.own _ (PySem.mem_of_lookup k)).1
        · exact get k
      cab := fun y c z _ => by
        have z' : false = true := z
        cases z'
      hd := fun _ => hd, frames := Around.frames_deeper e0.frames, stk := .inr ⟨rfl, rfl⟩, exf := fun b z => absurd z (noE b)
      bs := e0.bs, bsz := e0.bsz, noex := fun b _ _ => noE b, exfs := fun b z => absurd z (noE b), funs := e0.funs, frf := e0.frf }
  refine { ok := okC, os := rfl, bare := e0.bare, base := Un.kept kp, loc := ⟨_, hns, fun i y v e1 e2 e3 => ?_⟩, cell := fun y c e => ?_, free := e0.hok.fresh (Nat.le_refl _), freeC := fun y c e => ?_,
           pin := fun q hq => absurd (show q ∈ ([] : List (Addr × Obj)) ++ [] from hq) (by simp), hok := e0.hok.kept kp, len := by show (some x :: σ).length = (pn :: X.N).length; rw [List.length_cons, List.length_cons, I.len] }
  · have e3' : Vis scope y := e3
    cases i with
    | zero =>
      have e1' : some pn = some y := e1
      have e2' : some (some x) = some (some v) := e2
      cases e1'
      cases e2'
      exact ⟨u, rx, .inl ⟨L.par, by simp⟩⟩
    | succ j =>
      have e1' : X.N[j]? = some y := e1
      have e2' : σ[j]? = some (some v) := e2
      rcases e3' with k | k | k
      · exact absurd (by rw [← (L.own _ (PySem.mem_of_lookup k)).2 rfl]; exact List.mem_of_getElem? e1') hnp
      · exact absurd rfl (L.own _ (PySem.mem_of_lookup k)).1
      · obtain ⟨m, hn, hl⟩ := I.loc
        have hvis : Vis X.env.scope y := (L.free _ (PySem.mem_of_lookup k) rfl).elim (fun k => .inr (.inl k)) fun k => .inr (.inr k)
        obtain ⟨w', r, q⟩ := hl j y v e1' e2' hvis
        obtain ⟨c2, h2⟩ := get k
        refine ⟨w', r, .inr ⟨.inr k, c2, h2, ?_⟩⟩
        have c1 := toX h2
        rcases q with ⟨k', _⟩ | ⟨_, c3, e', z⟩
        · have k'' : X.env.scope.names.lookup y = some .local := k'
          rcases L.free _ (PySem.mem_of_lookup k) rfl with k2 | k2
          · have k3 : X.env.scope.names.lookup y = some .cell := k2
            rw [k3] at k''; cases k''
          · have k3 : X.env.scope.names.lookup y = some .free := k2
            rw [k3] at k''; cases k''
        · rw [c1] at e'
          cases e'
          exact cellQ (I.freeC y _ c1) z
  · obtain ⟨w', z⟩ := I.cell y c (toX e)
    exact ⟨w', cellQ (I.freeC y c (toX e)) z⟩
  · obtain ⟨v, o, ho, hdt⟩ := I.cell y c (toX e)
    exact un.free c o ho (I.freeC y c (toX e)) (by simp)
/-- a(b), in the def that got the lambda as a: that def was entered at s -/
theorem pe_act1 {CXg : CXT} {Eg : XK} {Ng : List Str} {qg : Str} {sg : Scope} {g f c' : Addr} {cdg pm ctv : Value} {params : Arguments} {body : Expr} {scope : Scope} {k : Nat} {a b : Str} {pz : List (Addr × Obj)} {xe : Value → Shared → Prop} {W : WX} {tb : XK → TE} {p1 p2 p3 : Pos}
    (I : Inv X pins σ H s) (L : Lam1 X.env.scope scope pn) (hnp : pn ∉ X.N) (hf : s.heap.get? f = some (PySem.W.kla_obj "<lambda>" (X.env.qual ++ "<lambda>") params body scope (cloFrom X.env.cells scope.names []) pm c' ctv)) (hfn : H f = none) (hfs : f ∉ frs X.stack)
    (hbind : ∀ u : Value, bindArgs (PySem.W.kla_fn "<lambda>" (X.env.qual ++ "<lambda>") params body scope (cloFrom X.env.cells scope.names []) pm (.ref c') ctv) ⟨[u], []⟩ = pure [(pn, u)])
    (tk : L2N.Takes ((cxOf CXg X.prog X.w X.K X.mg X.base Ng qg sg g cdg X.A X.stack s H Eg).tr pz xe) W) (hr : Room (k + 1) (X.A.deeper (envOfC qg sg s.heap.objs.size g cdg)))
    (hbody : ∀ (E : XK) (A : Around) (outer : List Env) (sb : Shared) (Hb : Hp), Room k (A.deeper (lamEnv X scope sb.heap.objs.size f c')) → PE (lamC X pn A outer sb Hb E scope f c') body (tb E))
    (hN0 : Ng[0]? = some a) (hva : Vis sg a) (hN1 : Ng[1]? = some b) (hvb : Vis sg b) (hda : (a == ("__debug__" : Str)) = false) (hca : (a == ("__classdict__" : Str)) = false) (hdb : (b == ("__debug__" : Str)) = false) (hcb : (b == ("__classdict__" : Str)) = false)
    (he : starEach [.Name b p3] (envOfC qg sg s.heap.objs.size g cdg) = (false, eval (.Name b p3) (envOfC qg sg s.heap.objs.size g cdg)) :: starEach [] (envOfC qg sg s.heap.objs.size g cdg) := by rfl) (hpl : (backTo p2 (starEach [] (envOfC qg sg s.heap.objs.size g cdg))).any (·.1) = false := by rfl) :
    PE ((cxOf CXg X.prog X.w X.K X.mg X.base Ng qg sg g cdg X.A X.stack s H Eg).tr pz xe) (.Call (.Name a p1) [.Name b p3] [] p2)
      (fun σZ HZ Q => σZ[0]? = some (some (.ref f)) ∧ ∃ x, σZ[1]? = some (some x) ∧ HZ c' = some (CodeO c' (X.env.qual ++ "<lambda>")) ∧ tb (WE W σZ) (some x :: σ) HZ Q) := by
  refine ⟨fun pinsZ sZ σZ HZ Q IZ h => ?_⟩
  obtain ⟨hs, x, hx, hc, ht⟩ := h
  refine wpAny_Call_Name_kw (thn ((pe_var (pos := p1) (i := 0) hN0 hva hda hca).run pinsZ sZ σZ HZ (fun v H1 => v = .ref f ∧ H1 = HZ) IZ ⟨.ref f, hs, rfl, rfl⟩) fun uf s2 ⟨v, H1, I1, r1, q1⟩ => ?_)
  obtain ⟨ev, eH⟩ := q1
  subst ev
  rw [eH] at I1
  obtain rfl : uf = Value.ref f := r1
  have of1 : s2.heap.get? f = some (PySem.W.kla_obj "<lambda>" (X.env.qual ++ "<lambda>") params body scope (cloFrom X.env.cells scope.names []) pm c' ctv) := I1.base.keep f _ hf hfn hfs (fun z => nomatch (show f ∈ ([] : List Addr) from z))
  have hpa : PA ((cxOf CXg X.prog X.w X.K X.mg X.base Ng qg sg g cdg X.A X.stack s H Eg).tr pz xe) [.Name b p3] (tCons (tVar 1) tNil) := pa_cons (pe_var hN1 hvb hdb hcb) pa_nil he
  refine PySem.W.callWith_F ⟨_, _, _, _, of1⟩ (thn (hpa.run p2 pinsZ s2 σZ HZ (fun vs H2 => vs = [x] ∧ H2 = HZ) I1 ⟨x, hx, rfl, rfl⟩) fun us s3 hh => ?_) he hpl
  obtain ⟨vs, H2, I2, r2, ev2, eH2⟩ := hh
  subst ev2
  rw [eH2] at I2
  have of2 : s3.heap.get? f = some (PySem.W.kla_obj "<lambda>" (X.env.qual ++ "<lambda>") params body scope (cloFrom X.env.cells scope.names []) pm c' ctv) := I2.base.keep f _ hf hfn hfs (fun z => nomatch (show f ∈ ([] : List Addr) from z))
  refine ⟨⟨_, _, _, _, of2⟩, ?_⟩
  cases r2 with
  | cons ru rn =>
    rename_i u us'
    cases rn
    have un : Un (frs X.stack) [] H HZ s.heap s3.heap := I2.base
    obtain ⟨⟨oc, vt, t, hoc, hdc, hvc⟩, _, _⟩ := I2.hok c' _ hc
    have rc : codeAny (model X.prog X.w) (X.A.deeper (envOfC qg sg s.heap.objs.size g cdg)) (.call (.ref f) ⟨[u], []⟩) (CR (L2N.CX X.prog X.w) (envOfC qg sg s.heap.objs.size g cdg :: X.stack) X.prog X.w HZ s3 Q (WE W σZ)) s3 := by
      refine PySem.W.kla_callFunE hr.depth of2 rfl L.co L.gen rfl ⟨c', oc, vt, t, rfl, hoc, hdc, hvc⟩ ?_
      rw [hbind u]
      refine wpAny_pure (wpAny_newFunctionEnv (fun y hy => (L.own y hy).1) (fun y hy => ?_) (fun hq hns hsb => ⟨I2.nolimit.fresh _ hsb, ?_⟩) L.kind)
      · rw [List.mem_singleton] at hy
        subst hy
        exact L.par
      · show codeAny _ _ (.expr body (lamEnv X scope s3.heap.objs.size f c')) _ _
        have kp : ∀ b o, s3.heap.get? b = some o → hq.get? b = some o := fun b o e => hsb.extBut b o (Nat.ne_of_lt (Heap.lt_size e)) (Heap.get?_push_of_some _ e)
        have J : Inv (lamC X pn (X.A.deeper (envOfC qg sg s.heap.objs.size g cdg)) (envOfC qg sg s.heap.objs.size g cdg :: X.stack) s3 HZ (WE W σZ) scope f c') [] (some x :: σ) HZ { s3 with heap := hq, toks := s3.toks + ([(pn, u)] : List (Str × Value)).length } :=
          lam1_start I L hnp I2.env0 hr.hd un hns ru kp
        refine PySem.W.kla_codeExpr (wpAny_mono ((hbody _ _ _ s3 HZ (hr.deeper _)).run [] _ _ HZ Q J ht) (fun v s' hq => ?_) fun e s' hq => hq)
        obtain ⟨w', H', J', rv, q⟩ := hq
        exact ⟨w', H', J'.os, J'.bare, J'.base, J'.hok, rv, q⟩
    have hxx := L2N.passAt tk σZ
    refine wpAny_call (codeAny_mono rc fun r s' hq => ?_)
    cases r with
    | error e => exact hxx pinsZ HZ s3 e s' I2 hq
    | ok fl =>
      cases fl with
      | ret w' => exact I2.after hq
      | next => exact False.elim hq
      | brk => exact False.elim hq
      | cont => exact False.elim hq
end
end BX

set_option Elab.async false
set_option linter.all false
set_option maxRecDepth 100000
set_option maxHeartbeats 2000000
/-! BX39: a lambda is made; the table of code objects in the store. -/
namespace BX
open PySem L2 PySem.Spec PyProof.Rows LamX
/-- the lambda's code object at c' is found in the table, or new -/
def Made (H H1 : Hp) (P c' : Addr) (q : Str) (ps : Array Value) : Prop :=
  (H1 = H ∧ ∃ pos : Pos, codeAmong pos ps.toList = some (.ref c')) ∨
  ∃ ps' : Array Value, H c' = none ∧ P ≠ c' ∧ H1 = upd (upd H P (.tbl ps')) c' (CodeO c' q) ∧ TriplesOk ps'.toList ∧ ∀ (pos : Pos) (cv : Value), codeAmong pos ps'.toList = some cv → codeAmong pos ps.toList = some cv ∨ cv = .ref c'
section
variable {X : Cx} {pins : List (Addr × Obj)} {σ : L2.St} {H : Hp} {s : Shared}
theorem lam_made {c P : Addr} {ps : Array Value} {params : Arguments} {body : Expr} {scope : Scope} {pos : Pos} {E : Value → Shared → Prop} {Q : Value → Shared → Prop} (I : Inv X pins σ H s) (TB : TabB X.base X.mg c P) (hcode : X.env.code = .ref c) (hP : H P = some (.tbl ps)) (ht : TriplesOk ps.toList)
    (ha : ∀ (pos : Pos) (cv : Value), codeAmong pos ps.toList = some cv → ∃ c, cv = .ref c ∧ H c = some (CodeO c (X.env.qual ++ "<lambda>"))) (hdef : defaultsOf params X.env = ([], [])) (hfree : ∀ y ∈ scope.names, y.2 = .free → ∃ c, X.env.cells.lookup y.1 = some c)
    (h : ∀ (f c' : Addr) (pm ctv : Value) (H1 : Hp) (s' : Shared), Inv X pins σ H1 s' → Made H H1 P c' (X.env.qual ++ "<lambda>") ps →
      s'.heap.get? f = some (PySem.W.kla_obj "<lambda>" (X.env.qual ++ "<lambda>") params body scope (cloFrom X.env.cells scope.names []) pm c' ctv) → H1 f = none → f ≠ X.env.locals → f ∉ X.fs → Q (.ref f) s') :
    wpAny (model X.prog X.w) X.A (eval (.Lambda params body scope pos) X.env) Q E s := by
  have bP : s.heap.BuiltinsAt X.mg P := TB.bm.keeps I.bk
  have oP : s.heap.get? P = some { cls := .none, data := .fields ps } := I.hok P _ hP
  have cl := closure_ok hfree
  have neL : ∀ {a : Addr}, s.heap.objs.size ≤ a → a ≠ X.env.locals := fun {a} z e => by
    have lt := I.lt
    rw [← e] at lt
    exact Nat.not_lt_of_le z lt
  refine PySem.W.kla_eval hdef ?_
  cases hc : codeAmong pos ps.toList with
  | none =>
    refine PySem.W.kla_makeFunction (mg := X.mg) (c := c) (P := P) (ps := ps) cl I.ok.glob (I.mod.glob.keeps I.bk) hcode (TB.code.keeps I.bk) oP ht hc TB.gP bP fun c' ctv hq tk hx hge hlt hrec htb => ?_
    obtain ⟨c2, oc, vs, t, e2, hoc, hdt, hvs⟩ := hrec
    cases e2
    have nC : H c' = none := I.hok.fresh hge
    have nPc : P ≠ c' := ne_of_none hP nC
    have big : s.heap.objs.size ≤ hq.objs.size := Nat.le_trans hge (Nat.le_of_lt hlt)
    have J := inv_table (t' := tk) (more := #[rawInt pos.line, rawInt pos.col, .ref c']) (h' := hq.push (PySem.W.kla_obj "<lambda>" (X.env.qual ++ "<lambda>") params body scope (cloFrom X.env.cells scope.names []) ((X.mg "__name__").getD .none) c' ctv)) (q := X.env.qual ++ "<lambda>") I hP
      (fun b o hb e => Heap.get?_push_of_some _ (hx b o hb e)) (Heap.get?_push_of_some _ htb) hge ⟨oc, vs, t, Heap.get?_push_of_some _ hoc, hdt, hvs⟩
    have eL : (ps ++ #[rawInt pos.line, rawInt pos.col, .ref c']).toList = ps.toList ++ [rawInt pos.line, rawInt pos.col, .ref c'] := by simp
    have n1 : hq.objs.size ≠ c' := Nat.ne_of_gt hlt
    have n2 : hq.objs.size ≠ P := Nat.ne_of_gt (Nat.lt_of_lt_of_le (Heap.lt_size oP) big)
    refine h hq.objs.size c' ((X.mg "__name__").getD .none) ctv _ _ J (.inr ⟨_, nC, nPc, rfl, by rw [eL]; exact PySem.TriplesOk_snoc _ _ _ _ ht, fun p' cv z => ?_⟩) (Heap.get?_push_size _ rfl) ?_ (neL big) (I.nofs big)
    · rw [eL] at z
      exact among_app _ ht z
    · rw [upd_ne n1, upd_ne n2]
      exact I.hok.fresh big
  | some cv =>
    obtain ⟨c', e, hco⟩ := ha pos cv hc
    subst e
    refine PySem.W.kla_makeFunctionHit (mg := X.mg) (c := c) (P := P) (ps := ps) cl I.ok.glob (I.mod.glob.keeps I.bk) hcode (TB.code.keeps I.bk) oP ht hc bP fun ctv hq tk hx big => ?_
    have J : Inv X pins σ H { s with heap := hq.push (PySem.W.kla_obj "<lambda>" (X.env.qual ++ "<lambda>") params body scope (cloFrom X.env.cells scope.names []) ((X.mg "__name__").getD .none) c' ctv), toks := tk } := I.kept fun b o e => Heap.get?_push_of_some _ (hx b o e)
    exact h hq.objs.size c' ((X.mg "__name__").getD .none) ctv H _ J (.inl ⟨rfl, pos, hc⟩) (Heap.get?_push_size _ rfl) (I.hok.fresh big) (neL big) (I.nofs big)
end
section
variable {G : Gx} {p : Ps} {M : List MO}
/-- the state behind the making -/
theorem made_ps {kt : Nat} {x : Str} {P c' : Addr} {H1 : Hp} {ps : Array Value} (ok : Ok G p M) (hk : p.m[kt]? = some P) (hM : M[kt]? = some (.tbl x)) (hP : p.H P = some (.tbl ps)) (mk : Made p.H H1 P c' (lamQ x) ps) :
    ∃ p1 : Ps, p1.H = H1 ∧ Le p p1 ∧ Ok G p1 M ∧ p1.S c' = some (CodeO c' (lamQ x)) := by
  have r := ok.at_ kt P _ hk hM
  obtain ⟨h0, ps0, h1, h2, h3⟩ := r
  have e0 : ps0 = ps := by
    rw [hP] at h1
    cases h1
    rfl
  subst e0
  rcases mk with ⟨rfl, pos, hc⟩ | ⟨ps', nC, nP, rfl, t1, t2⟩
  · obtain ⟨c, e, hS⟩ := h3 pos _ hc
    cases e
    exact ⟨p, rfl, .refl p, ok, hS⟩
  · have nS : p.S c' = none := by
      cases e : p.S c' with
      | none => rfl
      | some o => rw [ok.sub _ _ e] at nC; cases nC
    have hPm : P ∈ p.m := List.mem_of_getElem? hk
    have cm : c' ∉ p.m := ok.not_m nC
    let p1 : Ps := ⟨p.m, upd p.S c' (CodeO c' (lamQ x)), upd (upd p.H P (.tbl ps')) c' (CodeO c' (lamQ x))⟩
    have sh : ∀ a o, p.S a = some o → p1.S a = some o := fun a o e => by
      show upd p.S c' _ a = some o
      rw [upd_ne (ne_of_none e nS)]
      exact e
    have hH : ∀ a o, p.H a = some o → a ≠ P → p1.H a = some o := fun a o e z => by
      show upd (upd p.H P _) c' _ a = some o
      rw [upd_ne (ne_of_none e nC), upd_ne z]
      exact e
    have l : Le p p1 := by
      refine ⟨⟨[], by simp [p1]⟩, sh, fun a o e1 e2 => ?_, fun a o e1 e2 => hH a o e1 fun z => e2 (by rw [z]; exact hPm), fun a o e => ?_, fun a ha => .inl ha⟩
      · show upd p.S c' _ a = none
        rw [upd_ne (ne_of_none e2 nC)]
        exact e1
      · by_cases z : a = P
        · refine ⟨.tbl ps', ?_⟩
          show upd (upd p.H P _) c' _ a = _
          rw [z, upd_ne nP, upd_same]
        · exact ⟨o, hH a o e z⟩
    refine ⟨p1, rfl, l, ⟨fun a o e => ?_, ok.nd, fun a ha => ?_, ok.len, fun k a o e1 e2 => ?_⟩, ?_⟩
    · by_cases z : a = c'
      · rw [z] at e ⊢
        have e' : upd p.S c' (CodeO c' (lamQ x)) c' = some o := e
        rw [upd_same] at e'
        show upd (upd p.H P _) c' _ c' = _
        rw [upd_same]
        exact e'
      · have e' : upd p.S c' (CodeO c' (lamQ x)) a = some o := e
        rw [upd_ne z] at e'
        refine hH a o (ok.sub a o e') fun w => ?_
        rw [w, ok.apart P hPm] at e'
        cases e'
    · show upd p.S c' _ a = none
      rw [upd_ne fun z => cm (by rw [← z]; exact ha)]
      exact ok.apart a ha
    · by_cases z : a = P
      · subst z
        have ek : k = kt := by
          obtain ⟨b1, b2⟩ := List.getElem?_eq_some_iff.mp (show p.m[k]? = some a from e1)
          obtain ⟨b3, b4⟩ := List.getElem?_eq_some_iff.mp hk
          exact (List.getElem_inj ok.nd).mp (b2.trans b4.symm)
        subst ek
        rw [hM] at e2
        cases e2
        refine ⟨h0, ps', ?_, t1, fun pos cv hc => ?_⟩
        · show upd (upd p.H a _) c' _ a = _
          rw [upd_ne nP, upd_same]
        · rcases t2 pos cv hc with w | w
          · obtain ⟨c, e, hS⟩ := h3 pos cv w
            exact ⟨c, e, sh _ _ hS⟩
          · exact ⟨c', w, by show upd p.S c' _ c' = _; rw [upd_same]⟩
      · exact MOR.mono l (fun o' e => hH a o' e z) (ok.at_ k a o e1 e2)
    · show upd p.S c' _ c' = _
      rw [upd_same]
/-- all is kept -/
def KeepAll (H H' : Hp) : Prop := ∀ a o, H a = some o → H' a = some o
theorem keep_ps {H' : Hp} (ok : Ok G p M) (h : KeepAll p.H H') : Le p ⟨p.m, p.S, H'⟩ ∧ Ok G ⟨p.m, p.S, H'⟩ M := by
  have l : Le p ⟨p.m, p.S, H'⟩ := ⟨⟨[], by simp⟩, fun _ _ e => e, fun _ _ e _ => e, fun a o e _ => h a o e, fun a o e => ⟨o, h a o e⟩, fun a ha => .inl ha⟩
  exact ⟨l, ⟨fun a o e => h a o (ok.sub a o e), ok.nd, ok.apart, ok.len, fun k a o e1 e2 => MOR.mono l (h a) (ok.at_ k a o e1 e2)⟩⟩
end
end BX

set_option Elab.async false
set_option linter.all false
set_option maxRecDepth 100000
set_option maxHeartbeats 4000000
/-! BX40: _law_refused(lambda x: .., thing, due). -/
namespace BX
open PySem L2 PySem.Spec PyProof.Rows LamX
abbrev refN : List Str := ["_law_ask", "_law_thing", "_law_due", "error", "_law_kinds", "_law_kind"]
abbrev refP : List Str := ["_law_ask", "_law_thing", "_law_due"]
abbrev refX : Str := "_law_refused"
abbrev refCx (P : Program) (w : World) (K : PySem.W.Frag) (mg : Str → Option Value) (base : Heap) (st : Stmt) (g : Addr) (cdv : Value) (A : Around) (outer : List Env) (s : Shared) (H : Hp) : Cx := cxOf CX0 P w K mg base refN refX (defScope st) g cdv A outer s H fun _ _ _ => False
/-- what the asking def does with a lambda that raises the error of number c -/
def RefBody (P : Program) (w : World) (K : PySem.W.Frag) (mg : Str → Option Value) (base : Heap) (k : Nat) (cls : Nat → Value) (st : Stmt) (g : Addr) : Prop :=
  ∀ (cdv : Value) (A : Around) (outer : List Env) (s : Shared) (H : Hp), Room k (A.deeper (envOfC refX (defScope st) s.heap.objs.size g cdv)) → ∀ (f : Addr) (xv : V) (due : Int) (c : Nat) (tl : XK → Hp → VK → Prop),
    (∀ (W : WX) (pz : List (Addr × Obj)) (xe : Value → Shared → Prop) (p1 p2 p3 : Pos), L2N.Takes ((refCx P w K mg base st g cdv A outer s H).tr pz xe) W →
      PE ((refCx P w K mg base st g cdv A outer s H).tr pz xe) (.Call (.Name "_law_ask" p1) [.Name "_law_thing" p3] [] p2) fun σZ HZ Q => σZ[0]? = some (some (.ref f)) ∧ σZ[1]? = some (some xv) ∧ HZ = H ∧ tl (WE W σZ) HZ Q) →
    ∀ good : Hp → Prop, (∀ E : XK, (∀ H', good H' → E (cls c) none H') → ∀ Q' : VK, tl E H Q') → c < 9 → ∀ Q : VK, (∀ H' H'', good H' → KeepAll H' H'' → Q (.bl (decide ((c : Int) = due))) H'') →
    ∃ t, PSs (refCx P w K mg base st g cdv A outer s H).nox (defBody st) t ∧ t { nx := fun _ H' => Q .non H', rt := Q } (L2.start refN [.ref f, xv, .int due]) H
structure RefOk (P : Program) (w : World) (K : PySem.W.Frag) (mg : Str → Option Value) (base : Heap) (k : Nat) (cls : Nat → Value) (st : Stmt) : Prop where
  ex : ∃ (g : Addr) (fd : FuncData), Fun K refX refX st g fd ∧ mg refX = some (.ref g) ∧ PySem.W.keepIn K (.ref g) = true ∧ FnScope refN refP (defScope st) ∧ Binds K fd refP [] ∧ RefBody P w K mg base k cls st g
/-- what a lambda's body asks, when it raises -/
def tbOf (G : Gx) (cls : Nat → Value) (fb : D → En → List MO → Option (Nat × List MO)) (E : XK) : TE := fun σ H _ => ∃ (p : Ps) (M : List MO) (env : En) (d : D) (c : Nat) (M1 : List MO), p.H = H ∧ Ok G p M ∧ EnvR G p (some d :: env) σ ∧ fb d env M = some (c, M1) ∧ ∀ p', Le p p' → Ok G p' M1 → E (cls c) none p'.H
/-- a call as a lambda's body, that raises -/
def fbC (F : Fn) (fa : FA) (d : D) (env : En) (M : List MO) : Option (Nat × List MO) := (fa (some d :: env) M).bind fun r => (rsvs (lkp 4 r.2) r.1).bind fun ds => (F ds []).bind fun o => match o with
  | .ex c => some (c, r.2)
  | _ => none
def eRef (kt : Nat) (x : Str) (fb : D → En → List MO → Option (Nat × List MO)) (fs : FA) (env : En) (M : List MO) : Option (D × List MO) := match M[kt]? with
  | some (.tbl x') => if x' = x then (fs env M).bind fun r => match r.1 with
    | [d, .int due] => (fb d env r.2).bind fun c => if c.1 < 9 then some (.bl (decide ((c.1 : Int) = due)), c.2) else none
    | _ => none
    else none
  | _ => none
theorem EnvR.cons {G : Gx} {p : Ps} {env : En} {σ : L2.St} {v : V} {d : D} (e : EnvR G p env σ) (r : Rep G.K p.S p.m v d) : EnvR G p (some d :: env) (some v :: σ) := by
  refine ⟨by rw [List.length_cons, List.length_cons, e.len], fun i d' h => ?_⟩
  cases i with
  | zero =>
    have h' : some (some d) = some (some d') := h
    cases h'
    exact ⟨v, rfl, r⟩
  | succ j => exact e.at_ j d' h
section
variable {X : Cx} {pins : List (Addr × Obj)} {σ : L2.St} {H : Hp} {s : Shared}
theorem pin_one {f : Addr} {o : Obj} (I : Inv X pins σ H s) (h1 : s.heap.get? f = some o) (h2 : H f = none) (h3 : f ≠ X.env.locals) (h4 : f ∉ X.fs) (h5 : ∀ v, o.data ≠ .cell v) : Inv X ((f, o) :: pins) σ H s := by
  refine ⟨I.ok, I.os, I.bare, I.base, I.loc, I.cell, I.free, I.freeC, fun q hq => ?_, I.hok, I.len⟩
  rcases List.mem_append.mp hq with z | z
  · exact I.pin q (List.mem_append_left _ z)
  · rcases List.mem_cons.mp z with rfl | z
    · exact ⟨h1, h2, h3, h4, h5⟩
    · exact I.pin q (List.mem_append_right _ z)
theorem unpin {f : Addr} {o : Obj} (I : Inv X ((f, o) :: pins) σ H s) : Inv X pins σ H s := by
  refine ⟨I.ok, I.os, I.bare, I.base, I.loc, I.cell, I.free, I.freeC, fun q hq => I.pin q ?_, I.hok, I.len⟩
  rcases List.mem_append.mp hq with z | z
  · exact List.mem_append_left _ z
  · exact List.mem_append_right _ (List.mem_cons_of_mem _ z)
end
section
variable {X : Cx} {cls : Nat → Value}
/-- g(es) in a lambda -/
theorem body_call {pn : Str} {A : Around} {outer : List Env} {sb : Shared} {Hb : Hp} {E : XK} {scope : Scope} {f c' : Addr} {k : Nat} {gname : Str} {ps : List Str} {F : Fn} {np : Nat} {e : Expr} {es : List Expr} {fa : FA} {p1 p2 : Pos}
    (c : XCal X.prog X.w X.K X.mg X.base k gname ps (spF (gx X) cls np F)) (ha : SAn (lamC X pn A outer sb Hb E scope f c') (e :: es) fa np) (hr : Room k (A.deeper (lamEnv X scope sb.heap.objs.size f c'))) (hg : Gl (lamC X pn A outer sb Hb E scope f c') gname) (hdb : (gname == ("__debug__" : Str)) = false := by decide)
    (he : starEach (e :: es) (lamEnv X scope sb.heap.objs.size f c') = (false, eval e (lamEnv X scope sb.heap.objs.size f c')) :: starEach es (lamEnv X scope sb.heap.objs.size f c') := by rfl) (hpl : (backTo p2 (starEach es (lamEnv X scope sb.heap.objs.size f c'))).any (·.1) = false := by rfl) :
    PE (lamC X pn A outer sb Hb E scope f c') (.Call (.Name gname p1) (e :: es) [] p2) (tbOf (gx X) cls (fbC F fa) E) := by
  obtain ⟨ta, pa, va⟩ := ha.a.ex
  obtain ⟨g, fd, F1, hm, hk, hb⟩ := c.ex
  have tk : L2N.Takes (lamC X pn A outer sb Hb E scope f c') fun v d _ H => E v d H := L2N.takes_of rfl rfl rfl rfl
  have pc := pe_callS (X := lamC X pn A outer sb Hb E scope f c') (p := p1) (pos := p2) (E := fun σ => E) F1 hr hg hm hk hb (fun σ => L2N.passAt tk σ) pa hdb he hpl
  refine ⟨fun pins s σ H Q I h => pc.run pins s σ H Q I ?_⟩
  obtain ⟨p, M, env, d, c0, M0, rfl, ok, er, h1, hE⟩ := h
  obtain ⟨⟨ds, M1⟩, e1, h1⟩ := bind_some h1
  obtain ⟨ds', e2, h1⟩ := bind_some h1
  obtain ⟨o, e3, h1⟩ := bind_some h1
  refine va p (some d :: env) M σ ds M1 ok er e1 _ fun q xs l m ok1 r => ?_
  cases o with
  | ex c =>
    cases h1
    have ra : Reps X.K (frzS q) [] xs ds' := rsvs_ok (p := q) (fun a o z => by unfold frzS; rw [z]) (lkS_ok ok1 4) r e2
    refine ⟨⟨[], frzS q, q.H⟩, [], ds', .ex c0, by rw [r.length]; exact ha.n _ _ _ _ e1, rfl, frz_ok ok1, ra, e3, fun w l2 => ?_⟩
    obtain ⟨l3, ok3⟩ := keep_ps (H' := w.H) ok1 fun a o z => l2.fr a o z (by simp)
    exact hE ⟨q.m, q.S, w.H⟩ (l.trans l3) ok3
  | _ => cases h1
/-- _law_refused(lambda x: .., thing, due) -/
theorem se_ref {st : Stmt} {k : Nat} {pn : Str} {params : Arguments} {body : Expr} {scope : Scope} {lpos p pos : Pos} {e2 e3 : Expr} {fs : FA} {kt : Nat} {x : Str} {c P : Addr} {fb : D → En → List MO → Option (Nat × List MO)}
    (R : RefOk X.prog X.w X.K X.mg X.base (k + 1) cls st) (hg : Gl X refX) (hr : Room (k + 2) X.A) (htab : PySem.W.tabIn X.K x = some (c, P)) (TB : TabB X.base X.mg c P) (hcode : X.env.code = .ref c) (hq : X.env.qual ++ "<lambda>" = lamQ x)
    (L : Lam1 X.env.scope scope pn) (hnp : pn ∉ X.N) (hdef : defaultsOf params X.env = ([], []))
    (hbind : ∀ (q : Str) (cl : List (Str × Addr)) (pm cv ctv u : Value), bindArgs (PySem.W.kla_fn "<lambda>" q params body scope cl pm cv ctv) ⟨[u], []⟩ = pure [(pn, u)]) (ha : SA X [e2, e3] fs)
    (hbody : ∀ (E : XK) (A : Around) (outer : List Env) (sb : Shared) (Hb : Hp) (f c' : Addr), Room k (A.deeper (lamEnv X scope sb.heap.objs.size f c')) → PE (lamC X pn A outer sb Hb E scope f c') body (tbOf (gx X) cls fb E))
    (he1 : starEach (.Lambda params body scope lpos :: [e2, e3]) X.env = (false, eval (.Lambda params body scope lpos) X.env) :: starEach [e2, e3] X.env := by rfl) (hpl : (backTo pos (starEach [e2, e3] X.env)).any (·.1) = false := by rfl) :
    SE X (.Call (.Name refX p) [.Lambda params body scope lpos, e2, e3] [] pos) (eRef kt x fb fs) := by
  obtain ⟨g, fd, F, hmg, hkp, S, hbd, RB⟩ := R.ex
  obtain ⟨ta, pa, va⟩ := ha.ex
  refine ⟨fun σ H Q => ∃ (p : Ps) (M : List MO) (env : En) (d : D) (M' : List MO), p.H = H ∧ Ok (gx X) p M ∧ EnvR (gx X) p env σ ∧ eRef kt x fb fs env M = some (d, M') ∧ ∀ (q : Ps) (v : V), Le p q → Ok (gx X) q M' → Rep X.K q.S q.m v d → Q v q.H, ⟨fun pins s σ H Q I h => ?_⟩,
    fun p env M σ d M' ok er h Q k => ⟨p, M, env, d, M', rfl, ok, er, h, fun q v l okq r => k q v l rfl okq r⟩⟩
  obtain ⟨p, M, env, d, M', rfl, ok, er, h1, hQ⟩ := h
  unfold eRef at h1
  split at h1
  · rename_i x' hM
    split at h1
    · rename_i ex
      subst ex
      obtain ⟨⟨ds, M2⟩, e1, h1⟩ := bind_some h1
      split at h1
      · rename_i th due hds
        have hds' : ds = [th, .int due] := hds
        subst hds'
        obtain ⟨⟨c0, M3⟩, e4, h1⟩ := bind_some h1
        split at h1
        · rename_i hc9
          cases h1
          have hkl : kt < p.m.length := by
            rw [ok.len]
            exact (List.getElem?_eq_some_iff.mp hM).1
          have hk : p.m[kt]? = some p.m[kt] := List.getElem?_eq_getElem hkl
          have rT := ok.at_ kt _ _ hk hM
          obtain ⟨⟨c1, hT⟩, ps, hP, ht, hco⟩ := rT
          have eP : p.m[kt] = P := by
            have z : PySem.W.tabIn X.K x' = some (c1, p.m[kt]) := hT
            rw [htab] at z
            cases z
            rfl
          rw [eP] at hk hP
          have ha' : ∀ (pos : Pos) (cv : Value), codeAmong pos ps.toList = some cv → ∃ c, cv = .ref c ∧ p.H c = some (CodeO c (X.env.qual ++ "<lambda>")) := fun ps' cv z => by
            obtain ⟨c2, a1, a2⟩ := hco ps' cv z
            exact ⟨c2, a1, by rw [hq]; exact ok.sub _ _ a2⟩
          refine wpAny_Call_Name_kw (ld_glob I hg hmg ?_ (by decide))
          refine PySem.W.callWith_K (h₀ := X.base) I.ok.mod.kin hkp ?_ he1 hpl
          rw [he1]
          show wpAny _ _ (spliced ((false, eval (.Lambda params body scope lpos) X.env) :: backTo pos (starEach [e2, e3] X.env))) _ _ s
          refine Calls.spliced_cons (lam_made I TB hcode hP ht ha' hdef (L.has I.ok) fun f c' pm ctv H1 s1 I1 mk hf hfn hfl hff => ?_)
          rw [hq] at mk
          obtain ⟨p1, rfl, l1, ok1, hS1⟩ := made_ps ok hk hM hP mk
          have I1p := pin_one I1 hf hfn hfl hff (fun v z => by cases z)
          refine thn (pa.run pos _ s1 σ p1.H (fun vs H2 => ∃ q : Ps, q.H = H2 ∧ Le p1 q ∧ Ok (gx X) q M2 ∧ Reps X.K q.S q.m vs [th, .int due]) I1p (va p1 env M σ _ M2 ok1 (er.mono l1) e1 _ fun q xs l m okq r => ⟨q, rfl, l, okq, r⟩)) fun us s2 hh => ?_
          obtain ⟨vs, H2, I2, r2, q, rfl, lq, okq, rq⟩ := hh
          have hpin := I2.pin _ (List.mem_append_right _ List.mem_cons_self)
          have I2u := unpin I2
          refine ⟨I2u.kIn, ?_⟩
          obtain ⟨oc, od, kV, doc, pmm, an, cdv, ct, osl, rfl, lk, hcd⟩ := F.ex
          cases rq with
          | @cons xv vs2 _ _ rx rq2 =>
          cases rq2 with
          | @cons dv vs3 _ _ rd rq3 =>
          cases rq3
          cases rd
          have hfrs : f ∉ frs X.stack := fun z => by
            rcases I2u.ok.stk with e | ⟨e, e'⟩
            · rw [e] at z
              exact hpin.2.2.2.1 z
            · rw [e] at z
              obtain ⟨en, hen, hen2⟩ := List.mem_filterMap.mp z
              rcases List.mem_cons.mp hen with rfl | hen
              · rw [e'] at hen2
                cases hen2
                exact hpin.2.2.1 rfl
              · exact hpin.2.2.2.1 (List.mem_filterMap.mpr ⟨en, hen, hen2⟩)
          have rc : codeAny (model X.prog X.w) X.A (.call (.ref g) ⟨.ref f :: us, []⟩) (CR CX0 X.stack X.prog X.w q.H s2 Q fun _ _ _ => False) s2 := by
            refine run_ofS (N := refN) (ps := refP) (us := .ref f :: us) (vs := .ref f :: [xv, .int due]) (k := k + 1) lk hcd S hr I2u.env0 ?_ (.cons rfl r2) rfl fun hr' => ?_
            · have := hbd s2 (.ref f :: us) I2u.kIn (by rw [List.append_nil]; show (Value.ref f :: us).length = 3; rw [List.length_cons, ← r2.length]; rfl)
              rw [List.append_nil] at this
              exact this
            · obtain ⟨t, ht', hq'⟩ := RB cdv X.A X.stack s2 q.H hr' f xv due c0 (fun E HZ Q' => tbOf (gx X) cls fb E (some xv :: σ) HZ Q')
                (fun W pz xe p1' p2' p3' tk => ⟨fun pinsZ sZ σZ HZ Q' IZ hZ => by
                  obtain ⟨z1, z2, z3, z4⟩ := hZ
                  subst z3
                  exact (pe_act1 (p1 := p1') (p2 := p2') (p3 := p3') (pn := pn) (a := "_law_ask") (b := "_law_thing") I2u L hnp hpin.1 hpin.2.1 hfrs (fun u => hbind _ _ _ _ _ u) tk hr' (fun E A outer sb Hb hrb => hbody E A outer sb Hb f c' hrb) rfl ((S.par _ (by decide)).elim .inl fun z => .inr (.inl z)) rfl ((S.par _ (by decide)).elim .inl fun z => .inr (.inl z)) (by decide) (by decide) (by decide) (by decide)).run pinsZ sZ σZ q.H Q' IZ
                    ⟨z1, xv, z2, by rw [hq]; exact okq.sub _ _ (lq.sh _ _ hS1), z4⟩⟩)
                (fun H' => ∃ p' : Ps, p'.H = H' ∧ Le q p' ∧ Ok (gx X) p' M3)
                (fun E hE Q' => ⟨q, M2, env, th, c0, M3, rfl, okq, (er.mono (l1.trans lq)).cons rx, e4, fun p' lp okp => hE _ ⟨p', rfl, lp, okp⟩⟩) hc9 Q
                (fun H' H'' hG hK => by
                  obtain ⟨p', rfl, lp, okp⟩ := hG
                  obtain ⟨l3, ok3⟩ := keep_ps (H' := H'') okp hK
                  exact hQ _ _ (((l1.trans lq).trans lp).trans l3) ok3 (.bl _))
              exact ⟨t, ht'.nox, hq'⟩
          refine wpAny_call (codeAny_mono rc fun r s3 hq => ?_)
          cases r with
          | error e => exact (show False from hq).elim
          | ok fl =>
            cases fl with
            | ret u => exact I2u.after hq
            | next => exact False.elim hq
            | brk => exact False.elim hq
            | cont => exact False.elim hq
        · cases h1
      · cases h1
    · cases h1
  · cases h1
end
end BX

set_option Elab.async false
set_option linter.all false
set_option maxRecDepth 100000
set_option maxHeartbeats 4000000
/-! BX41: the def that asks whether a lambda is refused: its body. -/
namespace BX
open PySem L2 PySem.Spec PyProof.Rows LamX
section
variable {P : Program} {w : World} {K : PySem.W.Frag} {mg : Str → Option Value} {base : Heap} {st : Stmt} {g : Addr} {k : Nat} {cls : Nat → Value}
theorem ref_body {b₀ : Stmt} {suite : List Stmt} {p1 p2 p3 p4 p5 p6 p7 p8 p9 : Pos} {j : Nat} {CE : Addr} {Gs : Addr → Nat → FS}
    (hbody : defBody st = [.Try [.Expr (.Call (.Name "_law_ask" p1) [.Name "_law_thing" p3] [] p2) p4] [.ExceptHandler (some (.Name "CloseError" p5)) (some "error") (b₀ :: suite) p6] [] [] p7, .Return (some (.Constant (.bool false) j p8)) p9])
    (S : FnScope refN refP (defScope st)) (hl : (defScope st).names.lookup ("error" : Str) = some .local) (hgl : (defScope st).names.lookup ("CloseError" : Str) = some .globalImplicit) (hCE : mg "CloseError" = some (.ref CE)) (hexm : ∀ c, c < 9 → PySem.W.exmOne K (cls c) (.ref CE) = some true)
    (hsu : ∀ (c : Nat), c < 9 → ∀ (cdv : Value) (A : Around) (outer : List Env) (s : Shared) (H : Hp), Room k (A.deeper (envOfC refX (defScope st) s.heap.objs.size g cdv)) → ∀ (a : Addr) (oe : Obj) (pn : List (Addr × Obj)), L2N.Zn (cls c) none oe → (∃ vs, oe.data = .fields vs) →
      SB ((refCx P w K mg base st g cdv A outer s H).nox.suite a ((a, oe) :: pn)) noW (b₀ :: suite) (Gs a c))
    (hG : ∀ (a : Addr) (c : Nat) (due : Int), c < 9 → ∃ M', Gs a c [none, none, some (.int due), some (.exn a), none, none] [] = some (.rt (.bl (decide ((c : Int) = due))) M')) : RefBody P w K mg base k cls st g := by
  intro cdv A outer s H hr f xv due c tl act good hraise hc9 Q hQ
  let Z : Cx := (refCx P w K mg base st g cdv A outer s H).nox
  let ts : Addr → Value → Option Addr → TS := fun a cl d D σ H' => ∀ (oe : Obj) (pn : List (Addr × Obj)), L2N.Zn cl d oe → (∃ vs, oe.data = .fields vs) → ∃ t, PSs (Z.suite a ((a, oe) :: pn)) (b₀ :: suite) t ∧ t D σ H'
  let rd : WX → TE := fun W σZ HZ Q => σZ[0]? = some (some (.ref f)) ∧ σZ[1]? = some (some xv) ∧ HZ = H ∧ tl (WE W σZ) HZ Q
  have hgZ : Gl Z "CloseError" := hgl
  rw [hbody]
  refine ⟨_, pss_cons (L2N.ps_try_as (X := Z) (i := 3) (n := "error") (c := .ref CE) (tb := fun W => tDrop (rd W)) (ts := ts) (Wout := fun _ _ _ _ => False) rfl rfl S.nd rfl hl ⟨hgZ, by decide, .inl hCE⟩ (fun _ _ x => by
        obtain ⟨_, _, _, _, _, _, _, _, _, _, _, _, _, _, _, _, z⟩ := x
        exact z.elim)
      (fun W pz xe tk _ => pss_one (ps_expr (act W pz xe p1 p2 p3 tk)))
      (fun a oe cl d pn hz hf => ⟨fun pins s' σ H' D I h => by
        obtain ⟨t, pt, ht⟩ := h oe pn hz hf
        exact pt.run pins s' σ H' D I ht⟩))
    (pss_one (ps_ret pe_bl)), ?_⟩
  refine ⟨rfl, rfl, rfl, hraise _ (fun H' hg' => ⟨true, hexm c hc9, fun _ a na oe pn hz hf => ?_, fun z => by cases z⟩) _⟩
  obtain ⟨t, pt, vt⟩ := (hsu c hc9 cdv A outer s H hr a oe pn hz hf).ex
  obtain ⟨M', hgs⟩ := hG a c due hc9
  refine ⟨t, pt, ?_⟩
  have okS : Ok ⟨P, w, K⟩ (⟨[], fun _ => none, H'⟩ : Ps) [] := ⟨fun a o e => (by cases e), .nil, fun a e => (by cases e), rfl, fun k a o e _ => (by simp at e)⟩
  have erS : EnvR ⟨P, w, K⟩ (⟨[], fun _ => none, H'⟩ : Ps) [none, none, some (.int due), some (.exn a), none, none] ((L2.start refN [.ref f, xv, .int due]).set 3 (some (.ref a))) := by
    refine ⟨rfl, fun i d e => ?_⟩
    match i, e with
    | 2, e =>
      cases e
      exact ⟨.int due, rfl, .int due⟩
    | 3, e =>
      cases e
      exact ⟨.ref a, rfl, .exn⟩
    | 0, e => cases e
    | 1, e => cases e
    | 4, e => cases e
    | 5, e => cases e
    | i + 6, e => simp at e
  refine vt _ _ _ _ _ okS erS hgs _ fun q x l okq rx => ?_
  cases rx
  exact hQ H' q.H hg' fun b o e => l.fr b o e (by simp)
end
end BX

set_option Elab.async false
set_option linter.all false
set_option maxRecDepth 100000
set_option maxHeartbeats 4000000
/-! BX42: what defs with raise and defs with lambdas are proved by. -/
namespace BX
open PySem L2 PySem.Spec PyProof.Rows LamX
/-- the own error class x has number c -/
def ErrN (K : PySem.W.Frag) (mg : Str → Option Value) (cls : Nat → Value) (c : Nat) (x : Str) : Prop := ∃ C, cls c = .ref C ∧ ErrC K mg x C
theorem ErrN.mk1 {X : Cx} {cls : Nat → Value} {c : Nat} {x m : Str} {j : Nat} {p p2 pos : Pos} (h : ErrN X.K X.mg cls c x) (hg : Gl X x) (hdb : (x == ("__debug__" : Str)) = false := by decide) : L2N.PMk X (.Call (.Name x p) [.Constant (.str m) j p2] [] pos) fun _ H Q => Q (cls c) none H := by
  obtain ⟨C, e, h⟩ := h
  rw [e]
  exact h.mk1 hg hdb
theorem owns_fn {P : Program} {w : World} {K : PySem.W.Frag} {mg : Str → Option Value} {base : Heap} {N : List Str} {qual : Str} {scope : Scope} {f : Addr} {cd : Value} {A : Around} {outer : List Env} {s : Shared} {H : Hp} {E : XK} :
    PassesOwn (model P w) (cxOf (L2N.CX P w) P w K mg base N qual scope f cd A outer s H E).A (cxOf (L2N.CX P w) P w K mg base N qual scope f cd A outer s H E).env (cxOf (L2N.CX P w) P w K mg base N qual scope f cd A outer s H E).xe :=
  passes_of (X := cxOf (L2N.CX P w) P w K mg base N qual scope f cd A outer s H E) (K := fun e s'' => L2N.CX P w outer H s E e s'') (E₁ := fun e' s'' => L2N.CX P w outer H s E e' s'') rfl
/-- the table of the code object of the def x, at f -/
structure TabX (K : PySem.W.Frag) (mg : Str → Option Value) (base : Heap) (x : Str) (f c P : Addr) : Prop where
  t : PySem.W.tabIn K x = some (c, P)
  b : TabB base mg c P
  n : PySem.W.nsIn K mainGlobals x = some (some (.ref f))
section
variable {P : Program} {w : World} {K : PySem.W.Frag} {mg : Str → Option Value} {base : Heap} {x qual : Str} {st : Stmt} {f c P0 : Addr} {fd : FuncData} {N ps : List Str} {k : Nat} {cls : Nat → Value}
theorem TabX.code (T : TabX K mg base x f c P0) {oc : Value} {od : Option Addr} {fd : FuncData} {sl : Array (Option Value)} (h : K.lookup f = some ⟨oc, od, .func fd, sl⟩) : fd.code = .ref c := by
  have t := T.t
  unfold PySem.W.tabIn at t
  rw [T.n] at t
  simp only [h] at t
  split at t
  · rename_i c1 hc
    split at t
    · split at t
      · cases t
        exact hc
      · cases t
    · cases t
  · cases t
/-- a def in which lambdas are made -/
theorem fn_okT (F : Fun K x qual st f fd) (S : FnScope N ps (defScope st)) {body : FS} (T : TabX K mg base x f c P0)
    (hb : ∀ (A : Around) (outer : List Env) (s : Shared) (H : Hp) (E : XK), Room k (A.deeper (envOfC qual (defScope st) s.heap.objs.size f (.ref c))) →
      SB (cxOf CX0 P w K mg base N qual (defScope st) f (.ref c) A outer s H E).nox noW (defBody st) body) :
    FnOk P w K mg base CX0 (k + 1) f fd ps (spF ⟨P, w, K⟩ cls ps.length (runFn N.length body)) := by
  obtain ⟨oc, od, kV, doc, pm, an, cdv, ct, osl, rfl, lk, hcd⟩ := F.ex
  have ec : cdv = .ref c := T.code lk
  subst ec
  refine fn_of lk hcd S (fun vs H Q E h => ?_) fun A outer s H vs Q E hr h => ?_
  · obtain ⟨p, M, ds, o, e, _⟩ := h
    exact e
  · obtain ⟨p, M, ds, o, e0, rfl, ok, r, e1, ko⟩ := h
    obtain ⟨t, pt, vt⟩ := (hb A outer s p.H E hr).ex
    refine ⟨t, pt.nox, ?_⟩
    obtain ⟨o1, e2, e3⟩ := bind_some e1
    have er : EnvR ⟨P, w, K⟩ p (ds.map some ++ List.replicate (N.length - ds.length) none) (L2.start N vs) := by
      have h1 := envR_start r (N.length - ds.length)
      unfold L2.start
      rw [r.length]
      exact h1
    refine vt p _ M _ o1 ok er e2 _ ?_
    cases o1 with
    | nx en M1 =>
      cases e3
      exact fun q σ l ok1 _ => ko q .non l ok1 .non
    | rt d M1 =>
      cases e3
      exact fun q y l ok1 rx => ko q y l ok1 rx
    | _ => cases e3
end
end BX

set_option Elab.async false
set_option linter.all false
set_option maxRecDepth 100000
set_option maxHeartbeats 4000000
/-! BX43: a comprehension over a range where an error is in hand. -/
namespace BX
open PySem L2 PySem.Spec PyProof.Rows HotX
/-- the context bears the handled error; that stands as it was caught -/
def HotK (X : Cx) : Prop := ∃ q : Addr × Obj, X.A.handled = some (.ref q.1) ∧ q ∈ X.pn ∧ (∃ vs, q.2.data = .fields vs) ∧ PySem.PXN.CtxN q.2
section
variable {X : Cx} {tg : Expr}
/-- an iterator over whole numbers has come -/
def PIH (X : Cx) (pins : List (Addr × Obj)) (σ : L2.St) (R : It → Hp → Prop) (itv : Value) (z : Shared) : Prop :=
  ∃ (it : Addr) (lo : Int) (n : Nat) (H' : Hp), itv = .ref it ∧ Inv X pins σ H' z ∧ IsRangeIter z.heap it lo (n : Int) 1 ∧ FpOk X pins H' it ∧ R (Itr lo n) H'
theorem range_hot {a : Expr} {ta : TA} {p pr : Pos} {pins : List (Addr × Obj)} {s : Shared} {σ : L2.St} {H : Hp} {R : It → Hp → Prop} (hg : Gl X "range") (hm : X.mg "range" = none) (ha : PA X [a] ta) (I : Inv X pins σ H s) (h : iRng1 ta σ H R) (hs : starEach [a] X.env = [(false, eval a X.env)] := by rfl) :
    wpAny (model X.prog X.w) X.A (eval (.Call (.Name "range" p) [a] [] pr) X.env) (fun v z => wpAny (model X.prog X.w) X.A (pyIter v) (PIH X pins σ R) X.xe z) X.xe s := by
  refine Call_ (ld_blt I hg hm boot_range (PyProof.Rows.callWith_type1 (thn (ha.run pr pins s σ H _ I h) fun us z hz => ?_) hs rfl))
  obtain ⟨vs, G, J, rv, j, ej, j1, j2, rr⟩ := hz
  subst ej
  cases rv with
  | cons ru rn =>
    cases rn
    obtain ⟨tk, rfl⟩ := ru
    refine call_range_1 (wpAny_pyIter_range (IsRange.new ..) (small_one (by omega) (by omega) j1 j2) ?_)
    generalize hob : ({ cls := .type "range", data := .fields #[.int 0 z.toks, .int j tk, .int 1 (z.toks + 1)] } : Obj) = ob
    have J1 : Inv X pins σ G { z with heap := z.heap.push ob, toks := z.toks + 1 + 1 } := J.kept fun b o e => Heap.get?_push_of_some _ e
    refine ⟨(z.heap.push ob).objs.size, 0, j.toNat, G, rfl, J1.kept (t' := z.toks + 1 + 1) fun b o e => Heap.get?_push_of_some _ e, ?_, J1.fpOk (Nat.le_refl _) (J1.hok.fresh (Nat.le_refl _)), rr⟩
    have e2 : ((j.toNat : Nat) : Int) = Builtin.Range.rangeSize 0 j 1 := by rw [rangeSize_one]; split <;> omega
    rw [e2]
    exact Heap.get?_push_size _ rfl
end
section
variable {X : Cx} {elt tg a : Expr} {ifs : List Expr} {scope : Scope} {own : List (Str × Nat)} {pos p pr : Pos} {ta : TA} {g : TG} {tt : TT} {te : TE}
theorem pe_lcH (hot : HotK X) (hN : X.N.Nodup) (hgr : Gl X "range") (hmr : X.mg "range" = none) (ha : PA X [a] ta) (bk : BlkOk X.N X.env.scope scope own)
    (hg : ∀ (s : Shared) (H : Hp) (C : Addr) (cl : List (Str × Addr)) (fp : List Addr), PG (X.blk s H scope (compEnvC scope cl C X.env) fp) tg g) (ht : ∀ (s : Shared) (H : Hp) (C : Addr) (cl : List (Str × Addr)) (fp : List Addr), PTs (X.blk s H scope (compEnvC scope cl C X.env) fp) ifs tt)
    (he : ∀ (s : Shared) (H : Hp) (C : Addr) (cl : List (Str × Addr)) (fp : List Addr), PE (X.blk s H scope (compEnvC scope cl C X.env) fp) elt te) (hst : starEach [a] X.env = [(false, eval a X.env)] := by rfl)
    (hs : ∀ x, foldedSetIterable (.Call (.Name "range" p) [a] [] pr) X.env x = pure x := by intro _; rfl) :
    PE X (.ListComp elt [⟨tg, .Call (.Name "range" p) [a] [] pr, ifs, 0⟩] scope pos) (tLc (iRng1 ta) g tt te (own.map (·.2))) := by
  refine ⟨fun pins s σ H Q I h => ?_⟩
  obtain ⟨pe0, hh, hpm, ⟨vs0, d0⟩, c0⟩ := hot
  have pin0 := I.pin pe0 (List.mem_append_left _ hpm)
  have hcl : ∀ y ∈ scope.names, y.2 = .free → ∃ c, X.env.cells.lookup y.1 = some c := fun y hy e => I.ok.has _ (bk.free y hy e)
  rw [eval_ListComp]
  refine wpAny_comprehension_free (use := none) rfl hs (closure_ok hcl) bk.kind (fun y hy e => by rw [bk.uniq y hy, e]) (thn (range_hot hgr hmr ha I h hst) fun xv za hza => thn hza fun itv zb hzb => ?_)
  obtain ⟨it, lo, n, G, rfl, Ib, rit, fit, q⟩ := hzb
  refine wpAny_newObj_type (newEnv_comp ?_) (by show 0 ≤ sizeLine; decide)
  generalize hD : zb.heap.objs.size = D
  have nD : G D = none := Ib.hok.fresh (Nat.le_of_eq hD)
  obtain ⟨W, ⟨m0, w0⟩, turn⟩ := q D nD
  have itlt : it < zb.heap.objs.size := Heap.lt_size rit
  have itD : it ≠ D := by rw [← hD]; exact Nat.ne_of_lt itlt
  let zc : Shared := { zb with heap := zb.heap.push { cls := .type "list", data := .seq ([] : List Value).toArray } }
  have Ic : Inv X pins σ (upd G D (.lst [])) zc := Ib.laid (t' := zb.toks) (fun b o e => Heap.get?_push_of_some _ e) (Nat.le_of_eq hD) ⟨Nat.zero_le _, [], 0, .nil, by rw [← hD]; exact Heap.get?_push_size _ rfl⟩
  have fic : FpOk X pins (upd G D (.lst [])) it := ⟨by rw [upd_ne itD]; exact fit.1, fit.2⟩
  have ltc : it < zc.heap.objs.size := by
    show it < (zb.heap.push _).objs.size
    rw [Heap.size_push]
    exact Nat.lt_succ_of_lt itlt
  have Id := block_start (fp := [it]) Ic bk hN fun b hb => by
    rw [List.mem_singleton] at hb
    subst hb
    exact ⟨fic, ltc⟩
  let cl := cellsFrom (zc.heap.objs.size + 1) scope.names (cloFrom X.env.cells scope.names [])
  let G0 : Hp := upd G D (.lst [])
  let B : Cx := X.blk zc G0 scope (compEnvC scope cl zc.heap.objs.size X.env) [it]
  let zd : Shared := { zc with heap := pushCells (zc.heap.push { cls := .type "dict", data := .dict #[] }) scope.names }
  have rid : IsRangeIter zd.heap it lo (n : Int) 1 := pushCells_keeps _ _ _ _ (Heap.get?_push_of_some _ (Heap.get?_push_of_some _ rit))
  have fpB : ∀ {σ' : L2.St} {H' : Hp} {z : Shared}, Inv B [] σ' H' z → H' it = none → FpOk B [] H' it := fun {σ' H' z} J hn =>
    ⟨hn, (J.ok.exf it (List.mem_singleton.mpr rfl)).1, J.ok.exfs it (List.mem_singleton.mpr rfl), .inl (List.mem_singleton.mpr rfl), fun x c e => (J.ok.exf it (List.mem_singleton.mpr rfl)).2 x c e, fun w hw => absurd (show w ∈ ([] : List (Addr × Obj)) ++ [] from hw) (by simp)⟩
  have nfrs : pe0.1 ∉ frs X.stack := fun z => by
    rcases I.ok.stk with e | ⟨e, e'⟩
    · rw [e] at z
      exact pin0.2.2.2.1 z
    · rw [e] at z
      obtain ⟨en, hen, hen2⟩ := List.mem_filterMap.mp z
      rcases List.mem_cons.mp hen with rfl | hen
      · rw [e'] at hen2
        exact pin0.2.2.1 (Option.some.inj hen2).symm
      · exact pin0.2.2.2.1 (List.mem_filterMap.mpr ⟨en, hen, hen2⟩)
  have pinC := Ic.pin pe0 (List.mem_append_left _ hpm)
  have nit : pe0.1 ≠ it := fit.2.2.2.2.2 pe0 (List.mem_append_left _ hpm)
  have hotAt : ∀ {σ' : L2.St} {H' : Hp} {z : Shared}, Inv B [] σ' H' z → HotAt X.A pe0.1 z.heap := fun {σ' H' z} J =>
    ⟨hh, pe0.2, vs0, J.base.keep pe0.1 pe0.2 pinC.1 pinC.2.1 nfrs (fun w => nit (List.mem_singleton.mp w)), d0, c0 vs0 d0⟩
  show codeAny _ _ (.compStart (.ListComp elt [⟨tg, .Call (.Name "range" p) [a] [] pr, ifs, 0⟩] scope pos) 0 (.ref it) (.ref D) (compEnvC scope cl zc.heap.objs.size X.env)) (compPost (model X.prog X.w) X.A X.xe none _ (.ref D) zc.heap.objs.size) zd
  have loop : codeAny (model X.prog X.w) X.A (.compLoop (.ListComp elt [⟨tg, .Call (.Name "range" p) [a] [] pr, ifs, 0⟩] scope pos) 0 (.ref it) (.ref D) (compEnvC scope cl zc.heap.objs.size X.env)) (compPost (model X.prog X.w) X.A X.xe none (EP X pins σ Q) (.ref D) zc.heap.objs.size) zd := by
    refine compLoop_any (fun k z => ∃ (i : Nat) (H' : Hp), Inv B [] (wipe σ (own.map (·.2))) H' z ∧ IsRangeIter z.heap it (lo + (i : Int)) ((n : Int) - (i : Int)) 1 ∧ H' it = none ∧ W i k H') ?_ m0 ⟨0, G0, Id, by simpa using rid, fic.1, w0⟩
    rintro k z1 ⟨i, H1, J1, r1, n1, w1⟩
    rcases turn i k H1 w1 with ⟨stop, fin⟩ | ⟨go, Nx, hNx, step⟩
    · have hle : (n : Int) - (i : Int) ≤ 0 := by
        have : n ≤ i := stop
        omega
      refine pyNext_range_end_hot (hotAt J1) r1 hle fun hq kp => ?_
      have J2 : Inv B [] (wipe σ (own.map (·.2))) H1 { z1 with heap := hq } := J1.kept (t' := z1.toks) kp
      have I2 : Inv X pins σ H1 { z1 with heap := hq } := Ic.call' (ch := [it]) J2.os J2.base J2.hok J2.bare fun b hb => by
        rw [List.mem_singleton] at hb
        subst hb
        exact ⟨fic.2.2.2.1, fic.2.1, fic.2.2.2.2.1, fic.2.2.2.2.2⟩
      have nC : H1 zc.heap.objs.size = none := J2.free
      obtain ⟨m, hn, _⟩ := J2.loc
      have hn' : hq.Ns zc.heap.objs.size m := hn
      have fC := Ic.fpOk (Nat.le_refl zc.heap.objs.size) nC
      refine ⟨m, hn', fun h2 sb => ?_⟩
      obtain ⟨f0, f1, f2, f3, f4, f5⟩ := fC
      exact ⟨.ref D, H1, I2.turned (t' := z1.toks) (fun b o hb e => (sb.2 b hb).trans e) f0 f1 f3 f4 f5, rfl, fin⟩
    · have hlt : 0 < (n : Int) - (i : Int) := by
        have : i < n := go
        omega
      obtain ⟨b0, b1, b2, b3, b4, b5⟩ := fpB J1 n1
      refine wpAny_pyNext_range_item r1 hlt fun hq rq sb => ?_
      have J2 : Inv B [] (wipe σ (own.map (·.2))) H1 { z1 with heap := hq, toks := z1.toks + 1 } := J1.turned (fun b o hb e => (sb.2 b hb).trans e) b0 b1 b3 b4 b5
      refine go_of (s := { z1 with heap := hq, toks := z1.toks + 1 }) (n := "range_iterator") rq rfl rfl (by decide) ?_
      have J3 := J2.pinned (fp := [it]) (fun b hb => by
        rw [List.mem_singleton] at hb
        subst hb
        exact fpB J2 n1) fun b hb => by
        rw [List.mem_singleton] at hb
        subst hb
        exact ⟨_, rq, fun v w => by
          have w' : Data.fields _ = Data.cell v := w
          cases w'⟩
      have ends : ∀ {z : Shared} {H' : Hp} {σ8 : L2.St}, wipe σ8 (own.map (·.2)) = wipe σ (own.map (·.2)) → Inv B ([] ++ pinsAt [it] hq) σ8 H' z → Nx H' →
          ∃ k', k' < k ∧ ∃ (i : Nat) (H' : Hp), Inv B [] (wipe σ (own.map (·.2))) H' z ∧ IsRangeIter z.heap it (lo + (i : Int)) ((n : Int) - (i : Int)) 1 ∧ H' it = none ∧ W i k' H' := fun {z H' σ8} hw J nx => by
        obtain ⟨k', hk, w'⟩ := hNx H' nx
        have pz := J.pin (it, _) (List.mem_append_right _ (List.mem_append_right _ (mem_pinsAt (List.mem_singleton.mpr rfl) rq)))
        have hl : (wipe σ (own.map (·.2))).length = σ8.length := by rw [← hw, wipe_length]
        refine ⟨k', hk, i + 1, H', (J.unpinned (pins := [])).weak hl (fun j v e => ?_), ?_, pz.2.1, w'⟩
        · rw [← hw] at e
          exact (wipe_some e).1
        · have e1 : lo + ((i + 1 : Nat) : Int) = lo + (i : Int) + 1 := by omega
          have e2 : (n : Int) - ((i + 1 : Nat) : Int) = (n : Int) - (i : Int) - 1 := by omega
          rw [e1, e2]
          exact pz.1
      have st := step (.int (lo + (i : Int))) H1 ⟨rfl, rfl⟩
      refine thnF ((hg zc G0 zc.heap.objs.size cl [it]).run _ _ _ H1 (.int (lo + (i : Int))) _ _ J3 ⟨_, rfl⟩ st) fun _ z4 ⟨σ4, H4, J4, hw4, q4⟩ => ?_
      refine thnF ((ht zc G0 zc.heap.objs.size cl [it]).run _ z4 σ4 H4 _ J4 q4) fun ok z5 ⟨H5, J5, q5⟩ => ?_
      cases ok with
      | false =>
        simp only [Bool.false_eq_true, if_false] at q5 ⊢
        exact ends hw4 J5 q5
      | true =>
        simp only [if_true] at q5 ⊢
        refine thnF ((he zc G0 zc.heap.objs.size cl [it]).run _ z5 σ4 H5 _ J5 q5) fun y z6 ⟨yv, H6, J6, r6, acc, hD6, hz6, nx⟩ => ?_
        exact app_ok (X := B) J6 hD6 hz6 r6 fun z7 J7 => ends hw4 J7 nx
  exact codeAny_compStart_list loop (wpAny_pyIter_rangeiter rid loop)
/-- [elt for tg in range(a) if ..] -/
theorem sn_compH {src : FE} {pt : Pat} {ft : FT} {fe : FE} {pos p pr : Pos} (hot : HotK X) (hN : X.N.Nodup) (hi : SE X a src) (hgr : Gl X "range") (hmr : X.mg "range" = none) (bk : BlkOk X.N X.env.scope scope own) (hv : ∀ i ∈ pt.slots, i ∈ own.map (·.2)) (b : Blk X scope tg elt ifs pt ft fe)
    (hst : starEach [a] X.env = [(false, eval a X.env)] := by rfl) (hst' : starEach [a] X.env = (false, eval a X.env) :: starEach [] X.env := by rfl) (hs : ∀ x, foldedSetIterable (.Call (.Name "range" p) [a] [] pr) X.env x = pure x := by intro _; rfl) :
    SN X (.ListComp elt [⟨tg, .Call (.Name "range" p) [a] [] pr, ifs, 0⟩] scope pos) (nComp (iRange1 src) (own.map (·.2)) pt ft fe) := by
  obtain ⟨t, pt', vt⟩ := hi.ex
  have vi : EvI (gx X) (iRng1 (tCons t tNil)) (iRange1 src) := fun p env M σ ds M' ok er h R k => by
    obtain ⟨⟨d1, M1⟩, e1, h⟩ := bind_some h
    cases d1 with
    | int n =>
      simp only at h
      split at h
      · rename_i hn
        cases h
        have hn := smallI_use hn
        refine vt p env M σ _ _ ok er e1 _ fun q x l m ok1 x1 => ?_
        cases x1
        exact ⟨n, rfl, by omega, by omega, k q _ l m ok1 walks_up⟩
      · cases h
    | _ => cases h
  exact ⟨_, pe_lcH (g := tgAny (gx X) pt) (tt := ttAny (gx X) ft) (te := teAny (gx X) fe) hot hN hgr hmr (pa_cons pt' pa_nil hst') bk (fun s H C cl fp => pg_any (b.g s H C cl fp)) (fun s H C cl fp => pts_any (b.t s H C cl fp)) (fun s H C cl fp => pe_any (b.e s H C cl fp)) hst hs, evn_comp vi hv⟩
end
end BX

set_option Elab.async false
set_option linter.all false
set_option maxRecDepth 100000
set_option maxHeartbeats 4000000
/-! BX44: the nine error classes. -/
namespace BX
open PySem L2 PySem.Spec PyProof.Rows LamX
def errNames : List Str := ["BadNet", "BadDrawn", "BadSide", "BadPlay", "BadNumber", "BadFloor", "BadEnding", "BadOrder", "TooMany"]
structure ErrAll (K : PySem.W.Frag) (mg : Str → Option Value) (cls : Nat → Value) (C : Nat → Addr) : Prop where
  cl : ∀ c, c < 9 → cls c = .ref (C c)
  er : ∀ c, c < 9 → ErrC K mg (errNames.getD c Str.empty) (C c)
  ex : ∀ c, c < 9 → ExcC K (C c)
  kt : ∀ c j, c < 9 → j < 9 → PySem.W.kitOne K (.ref (C c)) (.ref (C j)) = some (decide (c = j))
  kv : ∀ c, c < 9 → PySem.W.kitOne K (.ref (C c)) (.type "ValueError") = some true
  ce : ∃ CE, mg "CloseError" = some (.ref CE) ∧ ∀ c, c < 9 → PySem.W.exmOne K (.ref (C c)) (.ref CE) = some true
theorem ErrAll.mk1 {X : Cx} {cls : Nat → Value} {C : Nat → Addr} {x m : Str} {j : Nat} {p p2 pos : Pos} (h : ErrAll X.K X.mg cls C) (c : Nat) (hc : c < 9) (hg : Gl X x) (hx : errNames.getD c Str.empty = x := by rfl) (hdb : (x == ("__debug__" : Str)) = false := by decide) :
    L2N.PMk X (.Call (.Name x p) [.Constant (.str m) j p2] [] pos) fun _ H Q => Q (cls c) none H := by
  subst hx
  rw [h.cl c hc]
  exact (h.er c hc).mk1 hg hdb
end BX

set_option Elab.async false
set_option linter.all false
set_option maxRecDepth 100000
set_option maxHeartbeats 4000000
/-! BX45: the end of a law with lambdas. -/
namespace BX
open PySem L2 PySem.Spec PyProof.Rows LamX
/-- the law at the script, the tables in the store -/
theorem start_lawT {P : Program} {w : World} {K : PySem.W.Frag} {cls : Nat → Value} {F : Fn} {H : Hp} {a : Addr} {ns : List Int} {M' : List MO} {ts : List (Str × Addr)} (hS : SqL K H a (ns.map V.int)) (nd : (ts.map (·.2)).Nodup) (ht : ∀ t ∈ ts, (∃ c, PySem.W.tabIn K t.1 = some (c, t.2)) ∧ H t.2 = some (.tbl #[]))
    (e : F [.frz (ns.map D.int)] (ts.map fun t => .tbl t.1) = some (.rt (.bl true) M')) : spF ⟨P, w, K⟩ cls 1 F [.ref a] H (fun v _ => v = .bl true) fun _ _ _ => False := by
  let S : Hp := fun b => if b ∈ ts.map (·.2) then none else H b
  have sub : ∀ b o, S b = some o → H b = some o := fun b o z => by
    have z' : (if b ∈ ts.map (·.2) then none else H b) = some o := z
    split at z'
    · cases z'
    · exact z'
  have out : ∀ b o, H b = some o → (∀ ps, o ≠ .tbl ps) → S b = some o := fun b o z n => by
    show (if b ∈ ts.map (·.2) then none else H b) = some o
    rw [if_neg]
    · exact z
    · intro hb
      obtain ⟨t, hm, rfl⟩ := List.mem_map.mp hb
      have := (ht t hm).2
      rw [this] at z
      cases z
      exact n _ rfl
  have hS' : SqL K S a (ns.map V.int) := by
    rcases hS with (h | ⟨o, h⟩) | h
    · exact .inl (.inl (out _ _ h fun ps z => by cases z))
    · exact .inl (.inr ⟨o, out _ _ h fun ps z => by cases z⟩)
    · exact .inr h
  refine ⟨⟨ts.map (·.2), S, H⟩, ts.map fun t => .tbl t.1, [.frz (ns.map D.int)], _, rfl, rfl, ⟨sub, nd, fun b hb => ?_, ?_, fun k b o h1 h2 => ?_⟩, .cons (.frz hS' (reps_ints _ _ _ ns)) .nil, e, fun q x l ok r => ?_⟩
  · show (if b ∈ ts.map (·.2) then none else H b) = none
    rw [if_pos hb]
  · show (ts.map _).length = (ts.map _).length
    rw [List.length_map, List.length_map]
  · have h1' : (ts.map (·.2))[k]? = some b := h1
    rw [List.getElem?_map] at h1' h2
    cases ht' : ts[k]? with
    | none => rw [ht'] at h2; cases h2
    | some t =>
      rw [ht'] at h1' h2
      cases h1'
      cases h2
      obtain ⟨t1, t2⟩ := ht t (List.mem_of_getElem? ht')
      refine ⟨t1, #[], t2, True.intro, fun pos cv z => ?_⟩
      have z' : codeAmong pos [] = some cv := z
      simp [codeAmong] at z'
  · cases r
    rfl
theorem tabIn_of {K : PySem.W.Frag} {x : Str} {f c P : Addr} {oc toc : Value} {od tod : Option Addr} {fd : FuncData} {sl tsl : Array (Option Value)} {tvs : Array Value} (a : PySem.W.nsIn K mainGlobals x = some (some (.ref f))) (l : K.lookup f = some ⟨oc, od, .func fd, sl⟩) (e : fd.code = .ref c)
    (u : K.lookup c = some ⟨toc, tod, .fields tvs, tsl⟩) (v : (tvs[11]? : Option Value) = some (.ref P)) : PySem.W.tabIn K x = some (c, P) := by
  unfold PySem.W.tabIn
  rw [a]
  simp only [l, e, u, v]
theorem walkT {l : PySem.W.OpenLaw} {n k : Nat} {q : Program} {loose : List Str} {XP : (Str → Option Value) → Heap → Prop} {YP : World → Heap → Prop} {d : DefRec} {K : Params → PySem.W.Frag} {x : Str}
    (hn : l.most = some n) (hn2 : n ≤ sizeLine) (hdf : d.params.defaults = []) (hr : Room k callerA) (hY : ∀ (w : World) (h : Heap), YP w h → (K w.params).In h)
    (F : ∀ (w : World) (mg : Str → Option Value) (fa : Addr) (h : Heap), (K w.params).In h → h.Ns mainGlobals mg → mg d.name = some (.ref fa) →
      (∀ {d' : DefRec} {y : Str} {c P : Addr}, (recsOf q).find? (fun e => e.name == y) = some d' → PySem.W.tabIn (K w.params) y = some (c, P) → PySem.W.CodeHd h c P ∧ h.get? P = some (PySem.W.tabObj #[])) → LawAtS l w (K w.params) CX0 k n x mg fa h) :
    PySem.W.WalkO q loose XP YP l.row.toRowW d [] (fun f vs => PySem.call f vs) := by
  refine Att.attach_callB hn hdf fun w s₀ s₁ mg mb fa o pm cd doc a vs ns G Y ho hd hcd hmg hobj hints hlen hbits hg => ?_
  have KX := hY w _ Y
  obtain ⟨fd, cs, sp, hT, nT, C, hb, hsp, hF⟩ := F w mg fa _ KX G.T.g hmg fun hr ht => PySem.W.tab_of G.T KX hr ht
  exact law_callTs KX G.T.g G.T.b G.T.builtins G.T.nolimit hg hT nT C G.T.bmain hobj hints (Nat.le_trans hlen hn2) hr hF hb (fun H hH hS => hsp H a ns hlen hbits hH hS) fun H e s' z => z
end BX

namespace BL
open PySem L2 BX
def Fb_is_whole : FS :=
  (fRet (eT (tAnd (tE (eIsi .int (eVar 0))) (tE (eT (tNot (tE (eIsi .bl (eVar 0)))))))))
def F_is_whole : Fn := runFn 1 Fb_is_whole
def Fb_is_side : FS :=
  (fSeq (fIf (tOr (tNot (tE (eIsi .tup (eVar 0)))) (tOr (tE (eBin gNe (eCall gLen (aCons (eVar 0) aNil)) (eC (.int 2)))) (tOr (tNot (tE (eCallF F_is_whole [false] (aCons (eBin gIx (eVar 0) (eC (.int 0))) aNil)))) (tNot (tE (eCallF F_is_whole [false] (aCons (eBin gIx (eVar 0) (eC (.int 1))) aNil))))))) (fRet (eC (.bl false))) fSkip)
  (fRet (eChain3 gLe gLt gLt (eUn gNeg (eC (.int 1))) (eBin gIx (eVar 0) (eC (.int 0))) (eBin gIx (eVar 0) (eC (.int 1))) (eVar 1))))
def F_is_side : Fn := runFn 2 Fb_is_side
def E_asked_net_1 : FE :=
  (eCallF F_is_side [false, false] (aCons (eVar 1) (aCons (eBin gIx (eVar 0) (eC (.int 0))) aNil)))
def E_asked_net_2 : FE :=
  (eBin gGt (eBin gIx (eBin gIx (eVar 0) (eC (.int 1))) (eBin (gI fun i j => i - j) (eVar 2) (eC (.int 1)))) (eBin gIx (eBin gIx (eVar 0) (eC (.int 1))) (eVar 2)))
def E_asked_net_3 : FE :=
  (eBin gIn (eVar 3) (eVar 1))
def E_asked_net_4 : FE :=
  (eCall gAny (aCons (eFr (nComp (iSeq (eBin gIx (eVar 0) (eC (.int 1)))) [1] (.nm 1) tYesF E_asked_net_3)) aNil))
def Fb_asked_net : FS :=
  (fSeq (fIf (tOr (tNot (tE (eIsi .tup (eVar 0)))) (tOr (tE (eBin gNe (eCall gLen (aCons (eVar 0) aNil)) (eC (.int 2)))) (tOr (tNot (tE (eCallF F_is_whole [false] (aCons (eBin gIx (eVar 0) (eC (.int 0))) aNil)))) (tNot (tE (eChain gLe gLe (eC (.int 1)) (eBin gIx (eVar 0) (eC (.int 0))) (eC (.int 9)))))))) (fun _ _ => none) fSkip)
  (fSeq (fIf (tOr (tNot (tE (eIsi .lst (eBin gIx (eVar 0) (eC (.int 1)))))) (tOr (tE (eBin gGt (eCall gLen (aCons (eBin gIx (eVar 0) (eC (.int 1))) aNil)) (eC (.int 12)))) (tNot (tE (eCall gAll (aCons (eFr (nComp (iSeq (eBin gIx (eVar 0) (eC (.int 1)))) [1] (.nm 1) tYesF E_asked_net_1)) aNil)))))) (fun _ _ => none) fSkip)
  (fSeq (fIf (tE (eCall gAny (aCons (eFr (nComp (iRange2 (eC (.int 1)) (eCall gLen (aCons (eBin gIx (eVar 0) (eC (.int 1))) aNil))) [2] (.nm 2) tYesF E_asked_net_2)) aNil))) (fun _ _ => none) fSkip)
  (fIf (tNot (tE (eCall gAll (aCons (eFr (nComp (iRange1 (eBin gIx (eVar 0) (eC (.int 0)))) [3] (.nm 3) tYesF E_asked_net_4)) aNil)))) (fun _ _ => none) fSkip))))
def F_asked_net : Fn := runFn 4 Fb_asked_net
def E_is_rising_1 : FE :=
  (eT (tAnd (tE (eCallF F_is_whole [false] (aCons (eVar 2) aNil))) (tE (eChain gLe gLt (eC (.int 0)) (eVar 2) (eVar 1)))))
def E_is_rising_2 : FE :=
  (eBin gLt (eBin gIx (eVar 0) (eBin (gI fun i j => i - j) (eVar 3) (eC (.int 1)))) (eBin gIx (eVar 0) (eVar 3)))
def Fb_is_rising : FS :=
  (fSeq (fIf (tOr (tNot (tE (eIsi .lst (eVar 0)))) (tNot (tE (eCall gAll (aCons (eFr (nComp (iSeq (eVar 0)) [2] (.nm 2) tYesF E_is_rising_1)) aNil))))) (fRet (eC (.bl false))) fSkip)
  (fRet (eCall gAll (aCons (eFr (nComp (iRange2 (eC (.int 1)) (eCall gLen (aCons (eVar 0) aNil))) [3] (.nm 3) tYesF E_is_rising_2)) aNil))))
def F_is_rising : Fn := runFn 4 Fb_is_rising
def Fb_asked_drawn : FS :=
  (fSeq (fDrop (eCallF F_asked_net [false] (aCons (eVar 0) aNil)))
  (fIf (tNot (tE (eCallF F_is_rising [false, false] (aCons (eVar 1) (aCons (eCall gLen (aCons (eBin gIx (eVar 0) (eC (.int 1))) aNil)) aNil))))) (fun _ _ => none) fSkip))
def F_asked_drawn : Fn := runFn 2 Fb_asked_drawn
def L_open_of_1 : FS :=
  (fIf (tAnd (tE (eBin gGe (eVar 5) (eC (.int 0)))) (tE (eBin gNin (eVar 3) (eVar 1)))) (fSetIx (eBin gAdd (eBin gIx (eVar 2) (eVar 5)) (eC (.int 1))) (eVar 2) (eVar 5)) fSkip)
def L_open_of_2 : FS :=
  (fFor (iSeq (eVar 4)) (.nm 5) L_open_of_1)
def Fb_open_of : FS :=
  (fSeq (fNew 2 (nBin gRepN (eLst (aCons (eC (.int 0)) aNil)) (eBin gIx (eVar 0) (eC (.int 0)))))
  (fSeq (fFor (iEnumD (eBin gIx (eVar 0) (eC (.int 1)))) (.tp [3, 4]) L_open_of_2)
  (fRet (eVar 2))))
def F_open_of : Fn := runFn 6 Fb_open_of
def Fb_opened : FS :=
  (fSeq (fDrop (eCallF F_asked_drawn [false, false] (aCons (eVar 0) (aCons (eVar 1) aNil))))
  (fRetNew (nCallF F_open_of [false, false] (aCons (eVar 0) (aCons (eVar 1) aNil)))))
def F_opened : Fn := runFn 2 Fb_opened
def T_closed_1 : FT :=
  (tE (eBin gEq (eVar 3) (eC (.int 0))))
def E_closed_1 : FE :=
  (eVar 2)
def Fb_closed : FS :=
  (fSeq (fDrop (eCallF F_asked_drawn [false, false] (aCons (eVar 0) (aCons (eVar 1) aNil))))
  (fRetNew (nComp (iEnumD (eCallF F_open_of [false, false] (aCons (eVar 0) (aCons (eVar 1) aNil)))) [2, 3] (.tp [2, 3]) T_closed_1 E_closed_1)))
def F_closed : Fn := runFn 4 Fb_closed
def T_free_of_1 : FT :=
  (tE (eBin gNin (eVar 2) (eVar 1)))
def E_free_of_1 : FE :=
  (eVar 2)
def Fb_free_of : FS :=
  (fRetNew (nComp (iRange1 (eCall gLen (aCons (eBin gIx (eVar 0) (eC (.int 1))) aNil))) [2] (.nm 2) T_free_of_1 E_free_of_1))
def F_free_of : Fn := runFn 3 Fb_free_of
def Fb_free : FS :=
  (fSeq (fDrop (eCallF F_asked_drawn [false, false] (aCons (eVar 0) (aCons (eVar 1) aNil))))
  (fRetNew (nCallF F_free_of [false, false] (aCons (eVar 0) (aCons (eVar 1) aNil)))))
def F_free : Fn := runFn 2 Fb_free
def Fb_drawn_on : FS :=
  (fSeq (fNew 3 (nCall gSortedN (aCons (eBin gAdd (eVar 1) (eLst (aCons (eVar 2) aNil))) aNil)))
  (fRetTupM (mE (eVar 3) (mE (eBin (gI fun i j => i - j) (eMc gCount (eCallF F_open_of [false, true] (aCons (eVar 0) (aCons (eVar 3) aNil))) (aCons (eC (.int 0)) aNil)) (eMc gCount (eCallF F_open_of [false, false] (aCons (eVar 0) (aCons (eVar 1) aNil))) (aCons (eC (.int 0)) aNil))) mNil))))
def F_drawn_on : Fn := runFn 4 Fb_drawn_on
def Fb_draw : FS :=
  (fSeq (fDrop (eCallF F_asked_drawn [false, false] (aCons (eVar 0) (aCons (eVar 1) aNil))))
  (fSeq (fIf (tOr (tNot (tE (eCallF F_is_whole [false] (aCons (eVar 2) aNil)))) (tOr (tNot (tE (eChain gLe gLt (eC (.int 0)) (eVar 2) (eCall gLen (aCons (eBin gIx (eVar 0) (eC (.int 1))) aNil))))) (tE (eBin gIn (eVar 2) (eVar 1))))) (fun _ _ => none) fSkip)
  (fRetThaw (mCallT F_drawn_on [false, false, false] (aCons (eVar 0) (aCons (eVar 1) (aCons (eVar 2) aNil)))))))
def F_draw : Fn := runFn 3 Fb_draw
def L_floor_net_1 : FS :=
  (fSeq (fAsg (.nm 5) (eBin gAdd (eBin gMul (eVar 3) (eVar 1)) (eVar 4)))
  (fSeq (fDrop (eMc gExt (eVar 2) (aCons (eBin gMul (eLst (aCons (eTup (aCons (eUn gNeg (eC (.int 1))) (aCons (eVar 5) aNil))) aNil)) (eBin gAdd (eBin gAdd (eBin gAdd (eBin gEq (eVar 3) (eC (.int 0))) (eBin gEq (eVar 3) (eBin (gI fun i j => i - j) (eVar 0) (eC (.int 1))))) (eBin gEq (eVar 4) (eC (.int 0)))) (eBin gEq (eVar 4) (eBin (gI fun i j => i - j) (eVar 1) (eC (.int 1)))))) aNil)))
  (fSeq (fIf (tE (eBin gLt (eVar 4) (eBin (gI fun i j => i - j) (eVar 1) (eC (.int 1))))) (fDrop (eMc gApp (eVar 2) (aCons (eTup (aCons (eVar 5) (aCons (eBin gAdd (eVar 5) (eC (.int 1))) aNil))) aNil))) fSkip)
  (fIf (tE (eBin gLt (eVar 3) (eBin (gI fun i j => i - j) (eVar 0) (eC (.int 1))))) (fDrop (eMc gApp (eVar 2) (aCons (eTup (aCons (eVar 5) (aCons (eBin gAdd (eVar 5) (eVar 1)) aNil))) aNil))) fSkip))))
def L_floor_net_2 : FS :=
  (fFor (iRange1 (eVar 1)) (.nm 4) L_floor_net_1)
def Fb_floor_net : FS :=
  (fSeq (fIf (tOr (tNot (tE (eCallF F_is_whole [false] (aCons (eVar 0) aNil)))) (tOr (tNot (tE (eCallF F_is_whole [false] (aCons (eVar 1) aNil)))) (tOr (tE (eBin gLt (eVar 0) (eC (.int 1)))) (tOr (tE (eBin gLt (eVar 1) (eC (.int 1)))) (tE (eBin gGt (eBin gMul (eVar 0) (eVar 1)) (eC (.int 4)))))))) (fun _ _ => none) fSkip)
  (fSeq (fIf (tE (eBin gGt (eBin gAdd (eBin gMul (eVar 0) (eBin gAdd (eVar 1) (eC (.int 1)))) (eBin gMul (eVar 1) (eBin gAdd (eVar 0) (eC (.int 1))))) (eC (.int 12)))) (fun _ _ => none) fSkip)
  (fSeq (fNew 2 (nLst aNil))
  (fSeq (fFor (iRange1 (eVar 0)) (.nm 3) L_floor_net_2)
  (fRetTupM (mE (eBin gMul (eVar 0) (eVar 1)) (mN (nCall gSortedN (aCons (eVar 2) aNil)) mNil)))))))
def F_floor_net : Fn := runFn 6 Fb_floor_net
def Fb__law_number : FS :=
  (fSeq (fIf (tE (eBin gGe (eVar 0) (eBin (gIC cPow fun i j => i ^ j.toNat) (eC (.int 10)) (eC (.int 18))))) (fRet (eBin (gIC cDiv fun i j => i / j) (eVar 0) (eBin gAdd (eC (.int 1)) (eBin (gIC cMod fun i j => i % j) (eVar 1) (eC (.int 7)))))) fSkip)
  (fSeq (fAsg (.nm 3) (eBin (gIC cMod fun i j => i % j) (eBin gAdd (eBin gMul (eBin gAdd (eVar 0) (eBin gMul (eC (.int 977)) (eVar 1))) (eC (.int 48271))) (eVar 2)) (eC (.int 2147483647))))
  (fSeq (fAsg (.nm 4) (eBin gMul (eVar 3) (eBin gAdd (eBin gAdd (eVar 0) (eBin gMul (eC (.int 31)) (eVar 1))) (eC (.int 7)))))
  (fRet (eBin (gIC cDiv fun i j => i / j) (eBin gMul (eBin gMul (eVar 4) (eBin gAdd (eBin gAdd (eVar 3) (eVar 0)) (eC (.int 5)))) (eBin gAdd (eBin gMul (eVar 3) (eVar 3)) (eC (.int 11)))) (eBin gAdd (eC (.int 1009)) (eVar 1)))))))
def F__law_number : Fn := runFn 5 Fb__law_number
def E__law_net_1 : FE :=
  (eIf (tOr (tE (eBin gEq (eVar 7) (eC (.int 2)))) (tE (eBin gEq (eVar 13) (eC (.int 0))))) (eTup (aCons (eUn gNeg (eC (.int 1))) (aCons (eVar 13) aNil))) (eTup (aCons (eBin (gI fun i j => i - j) (eVar 13) (eC (.int 1))) (aCons (eVar 13) aNil))))
def L__law_net_1 : FS :=
  (fSeq (fAsg (.nm 10) (eBin (gIC cDiv fun i j => i / j) (eCallF F__law_number [false, false, false] (aCons (eBin gIx (eVar 4) (eBin (gIC cMod fun i j => i % j) (eBin gAdd (eVar 9) (eVar 1)) (eCall gLen (aCons (eVar 4) aNil)))) (aCons (eBin gAdd (eVar 9) (eVar 1)) (aCons (eVar 5) aNil)))) (eC (.int 3))))
  (fSeq (fAsg (.tp [11, 12]) (eTup (aCons (eBin (gI fun i j => i - j) (eBin (gIC cMod fun i j => i % j) (eVar 10) (eBin gAdd (eVar 6) (eC (.int 1)))) (eC (.int 1))) (aCons (eBin (gIC cMod fun i j => i % j) (eBin (gIC cDiv fun i j => i / j) (eVar 10) (eC (.int 11))) (eVar 6)) aNil))))
  (fIf (tE (eBin gNe (eVar 11) (eVar 12))) (fDrop (eMc gApp (eVar 8) (aCons (eTup (aCons (eCall gMin (aCons (eVar 11) (aCons (eVar 12) aNil))) (aCons (eCall gMax (aCons (eVar 11) (aCons (eVar 12) aNil))) aNil))) aNil))) fSkip)))
def Fb__law_net : FS :=
  (fSeq (fAsg (.nm 4) (eIf (tE (eBin gNe (eVar 0) (eLst aNil))) (eSl (eVar 0) oNone (oSome (eC (.int 63)))) (eLst (aCons (eC (.int 5)) aNil))))
  (fSeq (fAsg (.nm 5) (eBin gAdd (eCall gAbs (aCons (eCall gSum (aCons (eVar 4) aNil)) aNil)) (eVar 1)))
  (fSeq (fAsg (.tp [6, 7]) (eTup (aCons (eBin gAdd (eC (.int 1)) (eBin (gIC cMod fun i j => i % j) (eVar 5) (eVar 2))) (aCons (eBin (gIC cMod fun i j => i % j) (eBin (gIC cDiv fun i j => i / j) (eVar 5) (eVar 2)) (eC (.int 3))) aNil))))
  (fSeq (fNew 8 (nComp (iRange1 (eVar 6)) [13] (.nm 13) tYesF E__law_net_1))
  (fSeq (fIf (tAnd (tE (eBin gEq (eVar 7) (eC (.int 1)))) (tE (eBin gGt (eVar 6) (eC (.int 1))))) (fSetIx (eTup (aCons (eC (.int 0)) (aCons (eBin (gI fun i j => i - j) (eVar 6) (eC (.int 1))) aNil))) (eVar 8) (eC (.int 0))) fSkip)
  (fSeq (fFor (iRange1 (eBin (gIC cMod fun i j => i % j) (eBin (gIC cDiv fun i j => i / j) (eVar 5) (eC (.int 5))) (eBin gAdd (eBin (gI fun i j => i - j) (eVar 3) (eVar 6)) (eC (.int 1))))) (.nm 9) L__law_net_1)
  (fRet (eTup (aCons (eVar 6) (aCons (eCall gSorted (aCons (eVar 8) aNil)) aNil))))))))))
def F__law_net : Fn := runFn 14 Fb__law_net
def L__law_drawn_1 : FS :=
  (fSeq (fAsg (.nm 7) (eBin (gIC cDiv fun i j => i / j) (eCallF F__law_number [false, false, false] (aCons (eBin gIx (eVar 3) (eBin (gIC cMod fun i j => i % j) (eBin gAdd (eVar 6) (eVar 1)) (eCall gLen (aCons (eVar 3) aNil)))) (aCons (eBin gAdd (eVar 6) (eBin gMul (eC (.int 3)) (eVar 1))) (aCons (eVar 4) aNil)))) (eC (.int 3))))
  (fIf (tE (eBin gEq (eBin (gIC cMod fun i j => i % j) (eVar 7) (eBin gIx (eTup (aCons (eC (.int 2)) (aCons (eC (.int 4)) (aCons (eC (.int 9)) aNil)))) (eBin (gIC cMod fun i j => i % j) (eVar 4) (eC (.int 3))))) (eC (.int 0)))) (fDrop (eMc gApp (eVar 5) (aCons (eVar 6) aNil))) fSkip))
def Fb__law_drawn : FS :=
  (fSeq (fAsg (.nm 3) (eIf (tE (eBin gNe (eVar 0) (eLst aNil))) (eSl (eVar 0) oNone (oSome (eC (.int 63)))) (eLst (aCons (eC (.int 4)) aNil))))
  (fSeq (fParM [4, 5] (mE (eBin gAdd (eCall gAbs (aCons (eCall gSum (aCons (eVar 3) aNil)) aNil)) (eVar 1)) (mN (nLst aNil) mNil)))
  (fSeq (fFor (iRange1 (eCall gLen (aCons (eBin gIx (eVar 2) (eC (.int 1))) aNil))) (.nm 6) L__law_drawn_1)
  (fRet (eVar 5)))))
def F__law_drawn : Fn := runFn 8 Fb__law_drawn
def Fb__law_copied : FS :=
  (fRet (eTup (aCons (eBin gIx (eVar 0) (eC (.int 0))) (aCons (eCall gList (aCons (eBin gIx (eVar 0) (eC (.int 1))) aNil)) aNil))))
def F__law_copied : Fn := runFn 1 Fb__law_copied
def T__law_open_1 : FT :=
  (tAnd (tE (eBin gIn (eVar 3) (eVar 5))) (tE (eBin gNin (eVar 4) (eVar 1))))
def E__law_open_1 : FE :=
  (eVar 4)
def L__law_open_1 : FS :=
  (fDrop (eMc gApp (eVar 2) (aCons (eCall gLen (aCons (eFr (nComp (iEnumD (eBin gIx (eVar 0) (eC (.int 1)))) [4, 5] (.tp [4, 5]) T__law_open_1 E__law_open_1)) aNil)) aNil)))
def Fb__law_open : FS :=
  (fSeq (fNew 2 (nLst aNil))
  (fSeq (fFor (iRange1 (eBin gIx (eVar 0) (eC (.int 0)))) (.nm 3) L__law_open_1)
  (fRet (eVar 2))))
def F__law_open : Fn := runFn 6 Fb__law_open
def Fb__law_closes : FS :=
  (fRet (eBin (gI fun i j => i - j) (eMc gCount (eCallF F__law_open [false, false] (aCons (eVar 0) (aCons (eBin gAdd (eVar 1) (eLst (aCons (eVar 2) aNil))) aNil))) (aCons (eC (.int 0)) aNil)) (eMc gCount (eCallF F__law_open [false, false] (aCons (eVar 0) (aCons (eVar 1) aNil))) (aCons (eC (.int 0)) aNil))))
def F__law_closes : Fn := runFn 3 Fb__law_closes
def L__law_floor_right_1 : FS :=
  (fSeq (fIf (tE (eBin gLt (eBin (gIC cMod fun i j => i % j) (eVar 4) (eVar 1)) (eBin (gI fun i j => i - j) (eVar 1) (eC (.int 1))))) (fDrop (eMc gApp (eVar 3) (aCons (eTup (aCons (eVar 4) (aCons (eBin gAdd (eVar 4) (eC (.int 1))) aNil))) aNil))) fSkip)
  (fIf (tE (eBin gLt (eBin gAdd (eVar 4) (eVar 1)) (eBin gIx (eVar 2) (eC (.int 0))))) (fDrop (eMc gApp (eVar 3) (aCons (eTup (aCons (eVar 4) (aCons (eBin gAdd (eVar 4) (eVar 1)) aNil))) aNil))) fSkip))
def T__law_floor_right_1 : FT :=
  (tE (eBin gGe (eBin gIx (eVar 5) (eC (.int 0))) (eC (.int 0))))
def E__law_floor_right_1 : FE :=
  (eVar 5)
def Fb__law_floor_right : FS :=
  (fSeq (fAsg (.nm 2) (eCallF F_floor_net [false, false] (aCons (eVar 0) (aCons (eVar 1) aNil))))
  (fSeq (fIf (tOr (tE (eBin gNe (eBin gIx (eVar 2) (eC (.int 0))) (eBin gMul (eVar 0) (eVar 1)))) (tOr (tE (eBin gNe (eBin gIx (eVar 2) (eC (.int 1))) (eCall gSorted (aCons (eBin gIx (eVar 2) (eC (.int 1))) aNil)))) (tE (eBin gNe (eCallF F__law_open [false, false] (aCons (eVar 2) (aCons (eLst aNil) aNil))) (eBin gMul (eLst (aCons (eC (.int 4)) aNil)) (eBin gIx (eVar 2) (eC (.int 0)))))))) (fRet (eC (.bl false))) fSkip)
  (fSeq (fNew 3 (nLst aNil))
  (fSeq (fFor (iRange1 (eBin gIx (eVar 2) (eC (.int 0)))) (.nm 4) L__law_floor_right_1)
  (fRet (eBin gEq (eFr (nComp (iSeq (eBin gIx (eVar 2) (eC (.int 1)))) [5] (.nm 5) T__law_floor_right_1 E__law_floor_right_1)) (eCall gSorted (aCons (eVar 3) aNil))))))))
def F__law_floor_right : Fn := runFn 6 Fb__law_floor_right
def T_law_k01_1 : FT :=
  (tE (eBin gNin (eVar 16) (eVar 3)))
def E_law_k01_1 : FE :=
  (eVar 16)
def T_law_k01_2 : FT :=
  (tE (eBin gEq (eVar 18) (eC (.int 0))))
def E_law_k01_2 : FE :=
  (eVar 17)
def E_law_k01_3 : FE :=
  (eIsi .lst (eVar 10))
def E_law_k01_4 : FE :=
  (eIsi .bl (eVar 19))
def L_law_k01_1 : FS :=
  (fSeq (fIf (tE (eCall gAny (aCons (eFr (nCompK (eVar 10) [19] (.nm 19) tYesF E_law_k01_4)) aNil))) (fRet (eC (.bl false))) fSkip)
  (fDrop (eMc gApp (eVar 10) (aCons (eC (.int 0)) aNil))))
def L_law_k01_2 : FS :=
  (fSeq (fLstM 9 (mN (nCallF F_opened [false, false] (aCons (eVar 4) (aCons (eVar 5) aNil))) (mN (nCallF F_closed [false, false] (aCons (eVar 4) (aCons (eVar 5) aNil))) (mN (nCallF F_free [false, false] (aCons (eVar 4) (aCons (eVar 5) aNil))) mNil))))
  (fSeq (fIf (tOr (tE (eBin gNe (eVar 9) (eVar 7))) (tNot (tE (eCall gAll (aCons (eFr (nComp (iSeq (eVar 9)) [10] (.nm 10) tYesF E_law_k01_3)) aNil))))) (fRet (eC (.bl false))) fSkip)
  (fSeq (fIf (tOr (tE (eBin gNe (eVar 4) (eVar 2))) (tE (eBin gNe (eVar 5) (eVar 3)))) (fRet (eC (.bl false))) fSkip)
  (fFor (iSeq (eVar 9)) (.nm 10) L_law_k01_1))))
def L_law_k01_3 : FS :=
  (fSeq (fThaw 12 (mCallT F_draw [false, false, false] (aCons (eVar 4) (aCons (eVar 5) (aCons (eVar 11) aNil)))))
  (fSeq (fAsg (.nm 13) (eTup (aCons (eCall gSorted (aCons (eBin gAdd (eVar 3) (eLst (aCons (eVar 11) aNil))) aNil)) (aCons (eCallF F__law_closes [false, false, false] (aCons (eVar 2) (aCons (eVar 3) (aCons (eVar 11) aNil)))) aNil))))
  (fSeq (fIf (tOr (tNot (tE (eIsi .tup (eVar 12)))) (tE (eBin gNe (eVar 12) (eVar 13)))) (fRet (eC (.bl false))) fSkip)
  (fSeq (fIf (tOr (tE (eIsi .bl (eBin gIx (eVar 12) (eC (.int 1))))) (tOr (tE (eBin gGt (eBin gIx (eVar 12) (eC (.int 1))) (eC (.int 2)))) (tOr (tE (eBin gNe (eVar 4) (eVar 2))) (tE (eBin gNe (eVar 5) (eVar 3)))))) (fRet (eC (.bl false))) fSkip)
  (fDrop (eMc gApp (eBin gIx (eVar 12) (eC (.int 0))) (aCons (eC (.int 0)) aNil)))))))
def L_law_k01_4 : FS :=
  (fSeq (fAsg (.nm 2) (eCallF F__law_net [false, false, false, false] (aCons (eVar 0) (aCons (eVar 1) (aCons (eC (.int 9)) (aCons (eC (.int 12)) aNil))))))
  (fSeq (fAsg (.nm 3) (eCallF F__law_drawn [false, false, false] (aCons (eVar 0) (aCons (eVar 1) (aCons (eVar 2) aNil)))))
  (fSeq (fAsg (.tp [4, 5]) (eTup (aCons (eCallF F__law_copied [false] (aCons (eVar 2) aNil)) (aCons (eCall gList (aCons (eVar 3) aNil)) aNil))))
  (fSeq (fAsg (.nm 6) (eFr (nComp (iRange1 (eCall gLen (aCons (eBin gIx (eVar 2) (eC (.int 1))) aNil))) [16] (.nm 16) T_law_k01_1 E_law_k01_1)))
  (fSeq (fAsg (.nm 7) (eLst (aCons (eCallF F__law_open [false, false] (aCons (eVar 2) (aCons (eVar 3) aNil))) (aCons (eFr (nComp (iEnumD (eCallF F__law_open [false, false] (aCons (eVar 2) (aCons (eVar 3) aNil)))) [17, 18] (.tp [17, 18]) T_law_k01_2 E_law_k01_2)) (aCons (eVar 6) aNil)))))
  (fSeq (fFor (iRange1 (eC (.int 2))) (.nm 8) L_law_k01_2)
  (fFor (iSeq (eVar 6)) (.nm 11) L_law_k01_3)))))))
def L_law_k01_5 : FS :=
  (fIf (tNot (tE (eCallF F__law_floor_right [false, false] (aCons (eVar 14) (aCons (eVar 15) aNil))))) (fRet (eC (.bl false))) fSkip)
def Fb_law_k01 : FS :=
  (fSeq (fFor (iSeq (eLst (aCons (eC (.int 0)) (aCons (eC (.int 1)) (aCons (eC (.int 3)) aNil))))) (.nm 1) L_law_k01_4)
  (fSeq (fFor (iSeq (eLst (aCons (eTup (aCons (eC (.int 1)) (aCons (eC (.int 1)) aNil))) (aCons (eTup (aCons (eC (.int 1)) (aCons (eC (.int 2)) aNil))) (aCons (eTup (aCons (eC (.int 1)) (aCons (eC (.int 3)) aNil))) (aCons (eTup (aCons (eC (.int 2)) (aCons (eC (.int 1)) aNil))) (aCons (eTup (aCons (eC (.int 2)) (aCons (eC (.int 2)) aNil))) (aCons (eTup (aCons (eC (.int 3)) (aCons (eC (.int 1)) aNil))) aNil)))))))) (.tp [14, 15]) L_law_k01_5)
  (fSeq (fIf (tE (eBin gNe (eCallF F_floor_net [false, false] (aCons (eC (.int 1)) (aCons (eC (.int 1)) aNil))) (eTup (aCons (eC (.int 1)) (aCons (eBin gMul (eLst (aCons (eTup (aCons (eUn gNeg (eC (.int 1))) (aCons (eC (.int 0)) aNil))) aNil)) (eC (.int 4))) aNil))))) (fRet (eC (.bl false))) fSkip)
  (fRet (eBin gEq (eCallF F_draw [false, false, false] (aCons (eTup (aCons (eC (.int 2)) (aCons (eLst (aCons (eTup (aCons (eUn gNeg (eC (.int 1))) (aCons (eC (.int 0)) aNil))) (aCons (eTup (aCons (eC (.int 0)) (aCons (eC (.int 1)) aNil))) aNil))) aNil))) (aCons (eLst (aCons (eC (.int 0)) aNil)) (aCons (eC (.int 1)) aNil)))) (eTup (aCons (eLst (aCons (eC (.int 0)) (aCons (eC (.int 1)) aNil))) (aCons (eC (.int 2)) aNil))))))))
def F_law_k01 : Fn := runFn 20 Fb_law_k01
def E_are_lengths_1 : FE :=
  (eT (tAnd (tE (eCallF F_is_whole [false] (aCons (eVar 2) aNil))) (tE (eChain gLe gLe (eVar 1) (eVar 2) (eC (.int 1000))))))
def E_are_lengths_2 : FE :=
  (eBin gLe (eBin gIx (eVar 0) (eBin (gI fun i j => i - j) (eVar 3) (eC (.int 1)))) (eBin gIx (eVar 0) (eVar 3)))
def Fb_are_lengths : FS :=
  (fSeq (fIf (tOr (tNot (tE (eIsi .lst (eVar 0)))) (tNot (tE (eCall gAll (aCons (eFr (nComp (iSeq (eVar 0)) [2] (.nm 2) tYesF E_are_lengths_1)) aNil))))) (fRet (eC (.bl false))) fSkip)
  (fRet (eCall gAll (aCons (eFr (nComp (iRange2 (eC (.int 1)) (eCall gLen (aCons (eVar 0) aNil))) [3] (.nm 3) tYesF E_are_lengths_2)) aNil))))
def F_are_lengths : Fn := runFn 4 Fb_are_lengths
def Fb_asked_ending : FS :=
  (fSeq (fIf (tOr (tNot (tE (eCallF F_are_lengths [false, false] (aCons (eVar 0) (aCons (eTab [("chain", 3), ("ring", 4)] (eC (.str "chain"))) aNil))))) (tNot (tE (eCallF F_are_lengths [false, false] (aCons (eVar 1) (aCons (eTab [("chain", 3), ("ring", 4)] (eC (.str "ring"))) aNil)))))) (fun _ _ => none) fSkip)
  (fIf (tE (eBin gGt (eBin gAdd (eCall gLen (aCons (eVar 0) aNil)) (eCall gLen (aCons (eVar 1) aNil))) (eC (.int 8)))) (fun _ _ => none) fSkip))
def F_asked_ending : Fn := runFn 2 Fb_asked_ending
def L_pieces_of_1 : FS :=
  (fIf (tOr (tE (eBin gEq (eVar 3) (eC (.int 0)))) (tE (eBin gNe (eBin gIx (eVar 0) (eBin (gI fun i j => i - j) (eVar 3) (eC (.int 1)))) (eVar 4)))) (fDrop (eMc gApp (eVar 2) (aCons (eTup (aCons (eC (.str "chain")) (aCons (eVar 4) (aCons (eBin gAdd (eSl (eVar 0) oNone (oSome (eVar 3))) (eSl (eVar 0) (oSome (eBin gAdd (eVar 3) (eC (.int 1)))) oNone)) (aCons (eVar 1) aNil))))) aNil))) fSkip)
def L_pieces_of_2 : FS :=
  (fIf (tOr (tE (eBin gEq (eVar 3) (eC (.int 0)))) (tE (eBin gNe (eBin gIx (eVar 1) (eBin (gI fun i j => i - j) (eVar 3) (eC (.int 1)))) (eVar 4)))) (fDrop (eMc gApp (eVar 2) (aCons (eTup (aCons (eC (.str "ring")) (aCons (eVar 4) (aCons (eVar 0) (aCons (eBin gAdd (eSl (eVar 1) oNone (oSome (eVar 3))) (eSl (eVar 1) (oSome (eBin gAdd (eVar 3) (eC (.int 1)))) oNone)) aNil))))) aNil))) fSkip)
def Fb_pieces_of : FS :=
  (fSeq (fNew 2 (nLst aNil))
  (fSeq (fFor (iEnumD (eVar 0)) (.tp [3, 4]) L_pieces_of_1)
  (fSeq (fFor (iEnumD (eVar 1)) (.tp [3, 4]) L_pieces_of_2)
  (fRet (eVar 2)))))
def F_pieces_of : Fn := runFn 5 Fb_pieces_of
def Fb_taken_of : FS :=
  (fRet (eCall gMax (aCons (eBin gAdd (eVar 1) (eVar 2)) (aCons (eBin (gI fun i j => i - j) (eBin (gI fun i j => i - j) (eVar 1) (eBin gMul (eC (.int 2)) (eTab [("chain", 2), ("ring", 4)] (eVar 0)))) (eVar 2)) aNil))))
def F_taken_of : Fn := runFn 3 Fb_taken_of
def L_ending_of_1 (r : Fn) : FS :=
  (fDrop (eMc gApp (eVar 4) (aCons (eUn gNeg (eCallF F_taken_of [false, false, false] (aCons (eVar 5) (aCons (eVar 6) (aCons (eCallF r [false, false, true] (aCons (eVar 7) (aCons (eVar 8) (aCons (eVar 2) aNil)))) aNil))))) aNil)))
def Fb_ending_of (r : Fn) : FS :=
  (fSeq (fAsg (.nm 3) (eTup (aCons (eCall gTuple (aCons (eVar 0) aNil)) (aCons (eCall gTuple (aCons (eVar 1) aNil)) aNil))))
  (fSeq (fIf (tE (eBin gDnin (eVar 3) (eVar 2))) (fSeq (fNew 4 (nLst aNil))
  (fSeq (fFor (iSeq (eCallF F_pieces_of [false, false] (aCons (eVar 0) (aCons (eVar 1) aNil)))) (.tp [5, 6, 7, 8]) (L_ending_of_1 r))
  (fSetD (eIf (tE (eBin gNe (eVar 4) (eLst aNil))) (eCall gMax (aCons (eVar 4) aNil)) (eC (.int 0))) (eVar 2) (eVar 3)))) fSkip)
  (fRet (eBin gDget (eVar 2) (eVar 3)))))
def F_ending_of : Nat → Fn
  | 0 => fun _ _ => none
  | n + 1 => runFn 9 (Fb_ending_of (F_ending_of n))
def Fb_ending : FS :=
  (fSeq (fDrop (eCallF F_asked_ending [false, false] (aCons (eVar 0) (aCons (eVar 1) aNil))))
  (fRet (eCallM (F_ending_of 20) [false, false, true] (mE (eVar 0) (mE (eVar 1) (mD mNil))))))
def F_ending : Fn := runFn 2 Fb_ending
def L_openings_1 : FS :=
  (fIf (tE (eBin gEq (eUn gNeg (eCallF F_taken_of [false, false, false] (aCons (eVar 5) (aCons (eVar 6) (aCons (eCallF (F_ending_of 20) [false, false, true] (aCons (eVar 7) (aCons (eVar 8) (aCons (eVar 2) aNil)))) aNil))))) (eVar 4))) (fDrop (eMc gApp (eVar 3) (aCons (eTup (aCons (eVar 5) (aCons (eVar 6) aNil))) aNil))) fSkip)
def Fb_openings : FS :=
  (fSeq (fDrop (eCallF F_asked_ending [false, false] (aCons (eVar 0) (aCons (eVar 1) aNil))))
  (fSeq (fParM [2, 3] (mD (mN (nLst aNil) mNil)))
  (fSeq (fAsg (.nm 4) (eCallF (F_ending_of 20) [false, false, true] (aCons (eVar 0) (aCons (eVar 1) (aCons (eVar 2) aNil)))))
  (fSeq (fFor (iSeq (eCallF F_pieces_of [false, false] (aCons (eVar 0) (aCons (eVar 1) aNil)))) (.tp [5, 6, 7, 8]) L_openings_1)
  (fRet (eVar 3))))))
def F_openings : Fn := runFn 9 Fb_openings
def Fb_reply : FS :=
  (fSeq (fIf (tOr (tNot (tE (eIsi .str (eVar 0)))) (tE (eTabIn true [("chain", 3), ("ring", 4)] (eVar 0)))) (fun _ _ => none) fSkip)
  (fSeq (fIf (tOr (tNot (tE (eCallF F_is_whole [false] (aCons (eVar 1) aNil)))) (tNot (tE (eChain gLe gLe (eTab [("chain", 3), ("ring", 4)] (eVar 0)) (eVar 1) (eC (.int 1000)))))) (fun _ _ => none) fSkip)
  (fSeq (fDrop (eCallF F_asked_ending [false, false] (aCons (eVar 2) (aCons (eVar 3) aNil))))
  (fSeq (fAsg (.nm 4) (eCallM (F_ending_of 20) [false, false, true] (mE (eVar 2) (mE (eVar 3) (mD mNil)))))
  (fSeq (fIf (tAnd (tE (eBin gEq (eVar 2) (eLst aNil))) (tE (eBin gEq (eVar 3) (eLst aNil)))) (fRet (eC (.str "all"))) fSkip)
  (fSeq (fAsg (.tp [5, 6]) (eTup (aCons (eBin gAdd (eVar 1) (eVar 4)) (aCons (eBin (gI fun i j => i - j) (eBin (gI fun i j => i - j) (eVar 1) (eBin gMul (eC (.int 2)) (eTab [("chain", 2), ("ring", 4)] (eVar 0)))) (eVar 4)) aNil))))
  (fRet (eIf (tE (eBin gEq (eVar 5) (eVar 6))) (eC (.str "either")) (eIf (tE (eBin gGt (eVar 5) (eVar 6))) (eC (.str "all")) (eC (.str "leave")))))))))))
def F_reply : Fn := runFn 7 Fb_reply
def E_ending_net_1 : FE :=
  (eTup (aCons (eBin gAdd (eVar 3) (eVar 5)) (aCons (eBin gAdd (eBin gAdd (eVar 3) (eVar 5)) (eC (.int 1))) aNil)))
def L_ending_net_1 : FS :=
  (fSeq (fDrop (eMc gApp (eVar 2) (aCons (eTup (aCons (eUn gNeg (eC (.int 1))) (aCons (eVar 3) aNil))) aNil)))
  (fSeq (fDrop (eMc gExt (eVar 2) (aCons (eFr (nComp (iRange1 (eBin (gI fun i j => i - j) (eVar 4) (eC (.int 1)))) [5] (.nm 5) tYesF E_ending_net_1)) aNil)))
  (fSeq (fDrop (eMc gApp (eVar 2) (aCons (eTup (aCons (eUn gNeg (eC (.int 1))) (aCons (eBin (gI fun i j => i - j) (eBin gAdd (eVar 3) (eVar 4)) (eC (.int 1))) aNil))) aNil)))
  (fAsg (.nm 3) (eBin gAdd (eVar 3) (eVar 4))))))
def E_ending_net_2 : FE :=
  (eTup (aCons (eBin gAdd (eVar 3) (eVar 5)) (aCons (eBin gAdd (eBin gAdd (eVar 3) (eVar 5)) (eC (.int 1))) aNil)))
def L_ending_net_2 : FS :=
  (fSeq (fDrop (eMc gExt (eVar 2) (aCons (eFr (nComp (iRange1 (eBin (gI fun i j => i - j) (eVar 4) (eC (.int 1)))) [5] (.nm 5) tYesF E_ending_net_2)) aNil)))
  (fSeq (fDrop (eMc gApp (eVar 2) (aCons (eTup (aCons (eVar 3) (aCons (eBin (gI fun i j => i - j) (eBin gAdd (eVar 3) (eVar 4)) (eC (.int 1))) aNil))) aNil)))
  (fAsg (.nm 3) (eBin gAdd (eVar 3) (eVar 4)))))
def Fb_ending_net : FS :=
  (fSeq (fDrop (eCallF F_asked_ending [false, false] (aCons (eVar 0) (aCons (eVar 1) aNil))))
  (fSeq (fParM [2, 3] (mN (nLst aNil) (mE (eC (.int 0)) mNil)))
  (fSeq (fFor (iSeq (eVar 0)) (.nm 4) L_ending_net_1)
  (fSeq (fFor (iSeq (eVar 1)) (.nm 4) L_ending_net_2)
  (fSeq (fIf (tOr (tE (eBin gEq (eVar 3) (eC (.int 0)))) (tOr (tE (eBin gGt (eVar 3) (eC (.int 9)))) (tE (eBin gGt (eCall gLen (aCons (eVar 2) aNil)) (eC (.int 12)))))) (fRet (eC .non)) fSkip)
  (fRetTupM (mE (eVar 3) (mN (nCall gSortedN (aCons (eVar 2) aNil)) mNil))))))))
def F_ending_net : Fn := runFn 6 Fb_ending_net
def Fb_side_worth (r : Fn) : FS :=
  (fSeq (fAsg (.tp [4, 5]) (eCallF F_drawn_on [false, false, false] (aCons (eVar 0) (aCons (eVar 1) (aCons (eVar 2) aNil)))))
  (fSeq (fAsg (.nm 6) (eCallF r [false, false, true] (aCons (eVar 0) (aCons (eVar 4) (aCons (eVar 3) aNil)))))
  (fRet (eIf (tE (eBin gGt (eVar 5) (eC (.int 0)))) (eBin gAdd (eVar 5) (eVar 6)) (eUn gNeg (eVar 6))))))
def F_side_worth (r : Fn) : Fn := runFn 7 (Fb_side_worth r)
def E_worth_of_1 (r : Fn) : FE :=
  (eCallF (F_side_worth r) [false, false, false, true] (aCons (eVar 0) (aCons (eVar 1) (aCons (eVar 5) (aCons (eVar 2) aNil)))))
def Fb_worth_of (r : Fn) : FS :=
  (fSeq (fAsg (.nm 3) (eCall gTuple (aCons (eVar 1) aNil)))
  (fSeq (fIf (tE (eBin gDnin (eVar 3) (eVar 2))) (fSeq (fAsg (.nm 4) (eFr (nComp (iSeq (eCallF F_free_of [false, false] (aCons (eVar 0) (aCons (eVar 1) aNil)))) [5] (.nm 5) tYesF (E_worth_of_1 r))))
  (fSetD (eIf (tE (eBin gNe (eVar 4) (eLst aNil))) (eCall gMax (aCons (eVar 4) aNil)) (eC (.int 0))) (eVar 2) (eVar 3))) fSkip)
  (fRet (eBin gDget (eVar 2) (eVar 3)))))
def F_worth_of : Nat → Fn
  | 0 => fun _ _ => none
  | n + 1 => runFn 6 (Fb_worth_of (F_worth_of n))
def Fb_worth : FS :=
  (fSeq (fDrop (eCallF F_asked_drawn [false, false] (aCons (eVar 0) (aCons (eVar 1) aNil))))
  (fRet (eCallM (F_worth_of 20) [false, false, true] (mE (eVar 0) (mE (eVar 1) (mD mNil))))))
def F_worth : Fn := runFn 2 Fb_worth
def T_best_of_1 : FT :=
  (tE (eBin gEq (eCallF (F_side_worth (F_worth_of 20)) [false, false, false, true] (aCons (eVar 0) (aCons (eVar 1) (aCons (eVar 4) (aCons (eVar 2) aNil))))) (eVar 3)))
def E_best_of_1 : FE :=
  (eVar 4)
def Fb_best_of : FS :=
  (fSeq (fAsg (.nm 3) (eCallF (F_worth_of 20) [false, false, true] (aCons (eVar 0) (aCons (eVar 1) (aCons (eVar 2) aNil)))))
  (fRetNew (nComp (iSeq (eCallF F_free_of [false, false] (aCons (eVar 0) (aCons (eVar 1) aNil)))) [4] (.nm 4) T_best_of_1 E_best_of_1)))
def F_best_of : Fn := runFn 5 Fb_best_of
def Fb_best : FS :=
  (fSeq (fDrop (eCallF F_asked_drawn [false, false] (aCons (eVar 0) (aCons (eVar 1) aNil))))
  (fRetNew (nCallM F_best_of [false, false, true] (mE (eVar 0) (mE (eVar 1) (mD mNil))))))
def F_best : Fn := runFn 2 Fb_best
def E_plays_of_1 (r : Fn) : FE :=
  (eCallF r [false, false, true, true] (aCons (eVar 0) (aCons (eCall gSorted (aCons (eBin gAdd (eVar 1) (eLst (aCons (eVar 7) aNil))) aNil)) (aCons (eVar 2) (aCons (eVar 3) aNil)))))
def Fb_plays_of (r : Fn) : FS :=
  (fSeq (fAsg (.nm 4) (eCall gTuple (aCons (eVar 1) aNil)))
  (fSeq (fIf (tE (eBin gDnin (eVar 4) (eVar 3))) (fSeq (fAsg (.nm 5) (eCallF F_best_of [false, false, true] (aCons (eVar 0) (aCons (eVar 1) (aCons (eVar 2) aNil)))))
  (fSeq (fAsg (.nm 6) (eFr (nComp (iSeq (eVar 5)) [7] (.nm 7) tYesF (E_plays_of_1 r))))
  (fSetD (eIf (tE (eBin gNe (eVar 6) (eLst aNil))) (eCall gSum (aCons (eVar 6) aNil)) (eC (.int 1))) (eVar 3) (eVar 4)))) fSkip)
  (fRet (eBin gDget (eVar 3) (eVar 4)))))
def F_plays_of : Nat → Fn
  | 0 => fun _ _ => none
  | n + 1 => runFn 8 (Fb_plays_of (F_plays_of n))
def Fb_best_plays : FS :=
  (fSeq (fDrop (eCallF F_asked_drawn [false, false] (aCons (eVar 0) (aCons (eVar 1) aNil))))
  (fRet (eCallM (F_plays_of 20) [false, false, true, true] (mE (eVar 0) (mE (eVar 1) (mD (mD mNil)))))))
def F_best_plays : Fn := runFn 2 Fb_best_plays
def L_play_by_1 : FS :=
  (fSeq (fAsg (.nm 8) (eCall gSorted (aCons (eBin gAdd (eVar 5) (eLst (aCons (eVar 7) aNil))) aNil)))
  (fSeq (fAsg (.nm 9) (eCallF (F_plays_of 20) [false, false, true, true] (aCons (eVar 0) (aCons (eVar 8) (aCons (eVar 3) (aCons (eVar 4) aNil))))))
  (fSeq (fIf (tE (eBin gLt (eVar 2) (eVar 9))) (fSeq (fDrop (eMc gApp (eVar 6) (aCons (eVar 7) aNil)))
  (fSeq (fAsg (.nm 5) (eVar 8))
  fBrk)) fSkip)
  (fAsg (.nm 2) (eBin (gI fun i j => i - j) (eVar 2) (eVar 9))))))
def T_play_by_1 : FT :=
  (tE (eBin gLt (eCall gLen (aCons (eVar 5) aNil)) (eCall gLen (aCons (eBin gIx (eVar 0) (eC (.int 1))) aNil))))
def L_play_by_2 : FS :=
  (fFor (iSeq (eCallF F_best_of [false, false, true] (aCons (eVar 0) (aCons (eVar 5) (aCons (eVar 3) aNil))))) (.nm 7) L_play_by_1)
def Fb_play_by : FS :=
  (fSeq (fDrop (eCallF F_asked_drawn [false, false] (aCons (eVar 0) (aCons (eVar 1) aNil))))
  (fSeq (fParM [3, 4] (mD (mD mNil)))
  (fSeq (fIf (tOr (tNot (tE (eCallF F_is_whole [false] (aCons (eVar 2) aNil)))) (tNot (tE (eChain gLe gLt (eC (.int 0)) (eVar 2) (eCallF (F_plays_of 20) [false, false, true, true] (aCons (eVar 0) (aCons (eVar 1) (aCons (eVar 3) (aCons (eVar 4) aNil))))))))) (fun _ _ => none) fSkip)
  (fSeq (fParM [5, 6] (mE (eCall gList (aCons (eVar 1) aNil)) (mN (nLst aNil) mNil)))
  (fSeq (fWhile 10000 T_play_by_1 L_play_by_2)
  (fRet (eVar 6)))))))
def F_play_by : Fn := runFn 10 Fb_play_by
def Gs__law_refused (a : Addr) (c : Nat) : FS :=
  (fSeq (fAsg (.nm 4) (eLst (aCons (eIsE 3 a (decide (c = 0))) (aCons (eIsE 3 a (decide (c = 1))) (aCons (eIsE 3 a (decide (c = 2))) aNil)))))
  (fSeq (fAsg (.nm 4) (eBin gAdd (eVar 4) (eLst (aCons (eIsE 3 a (decide (c = 3))) (aCons (eIsE 3 a (decide (c = 4))) (aCons (eIsE 3 a (decide (c = 5))) aNil))))))
  (fSeq (fAsg (.nm 4) (eBin gAdd (eVar 4) (eLst (aCons (eIsE 3 a (decide (c = 6))) (aCons (eIsE 3 a (decide (c = 7))) (aCons (eIsE 3 a (decide (c = 8))) aNil))))))
  (fRet (eT (tAnd (tE (eBin gEq (eVar 4) (eFr (nComp (iRange1 (eC (.int 9))) [5] (.nm 5) tYesF (eBin gEq (eVar 5) (eVar 2)))))) (tE (eIsE 3 a true))))))))
def L_floor_net_X_1 : FS :=
  (fSeq (fAsg (.nm 5) (eBin gAdd (eBin gMul (eVar 3) (eVar 1)) (eVar 4)))
  (fSeq (fDrop (eMc gExt (eVar 2) (aCons (eBin gMul (eLst (aCons (eTup (aCons (eUn gNeg (eC (.int 1))) (aCons (eVar 5) aNil))) aNil)) (eBin gAdd (eBin gAdd (eBin gAdd (eBin gEq (eVar 3) (eC (.int 0))) (eBin gEq (eVar 3) (eBin (gI fun i j => i - j) (eVar 0) (eC (.int 1))))) (eBin gEq (eVar 4) (eC (.int 0)))) (eBin gEq (eVar 4) (eBin (gI fun i j => i - j) (eVar 1) (eC (.int 1)))))) aNil)))
  (fSeq (fIf (tE (eBin gLt (eVar 4) (eBin (gI fun i j => i - j) (eVar 1) (eC (.int 1))))) (fDrop (eMc gApp (eVar 2) (aCons (eTup (aCons (eVar 5) (aCons (eBin gAdd (eVar 5) (eC (.int 1))) aNil))) aNil))) fSkip)
  (fIf (tE (eBin gLt (eVar 3) (eBin (gI fun i j => i - j) (eVar 0) (eC (.int 1))))) (fDrop (eMc gApp (eVar 2) (aCons (eTup (aCons (eVar 5) (aCons (eBin gAdd (eVar 5) (eVar 1)) aNil))) aNil))) fSkip))))
def L_floor_net_X_2 : FS :=
  (fFor (iRange1 (eVar 1)) (.nm 4) L_floor_net_X_1)
def Fb_floor_net_X : FS :=
  (fSeq (fIf (tOr (tNot (tE (eCallF F_is_whole [false] (aCons (eVar 0) aNil)))) (tOr (tNot (tE (eCallF F_is_whole [false] (aCons (eVar 1) aNil)))) (tOr (tE (eBin gLt (eVar 0) (eC (.int 1)))) (tOr (tE (eBin gLt (eVar 1) (eC (.int 1)))) (tE (eBin gGt (eBin gMul (eVar 0) (eVar 1)) (eC (.int 4)))))))) (fRaise 5) fSkip)
  (fSeq (fIf (tE (eBin gGt (eBin gAdd (eBin gMul (eVar 0) (eBin gAdd (eVar 1) (eC (.int 1)))) (eBin gMul (eVar 1) (eBin gAdd (eVar 0) (eC (.int 1))))) (eC (.int 12)))) (fRaise 5) fSkip)
  (fSeq (fNew 2 (nLst aNil))
  (fSeq (fFor (iRange1 (eVar 0)) (.nm 3) L_floor_net_X_2)
  (fRetTupM (mE (eBin gMul (eVar 0) (eVar 1)) (mN (nCall gSortedN (aCons (eVar 2) aNil)) mNil)))))))
def F_floor_net_X : Fn := runX 6 Fb_floor_net_X
def L__law_floors_right_k14_1 : FS :=
  (fIf (tNot (tE (eRef 0 "_law_floors_right" (fbC F_floor_net_X (aCons (eBin gIx (eVar 0) (eC (.int 0))) (aCons (eBin gIx (eVar 0) (eC (.int 1))) aNil))) (aCons (eVar 1) (aCons (eC (.int 5)) aNil))))) (fRet (eC (.bl false))) fSkip)
def L__law_floors_right_k14_2 : FS :=
  (fSeq (fThaw 6 (mCallT F_floor_net [false, false] (aCons (eVar 2) (aCons (eVar 3) aNil))))
  (fSeq (fIf (tOr (tE (eBin gNe (eBin gIx (eVar 6) (eC (.int 0))) (eVar 4))) (tOr (tE (eBin gNe (eCall gLen (aCons (eBin gIx (eVar 6) (eC (.int 1))) aNil)) (eVar 5))) (tE (eBin gNe (eBin gIx (eVar 6) (eC (.int 1))) (eCall gSorted (aCons (eBin gIx (eVar 6) (eC (.int 1))) aNil)))))) (fRet (eC (.bl false))) fSkip)
  (fSeq (fDrop (eMc gClear (eBin gIx (eVar 6) (eC (.int 1))) aNil))
  (fIf (tE (eBin gNe (eCall gLen (aCons (eBin gIx (eCallF F_floor_net [false, false] (aCons (eVar 2) (aCons (eVar 3) aNil))) (eC (.int 1))) aNil)) (eVar 5))) (fRet (eC (.bl false))) fSkip))))
def Fb__law_floors_right_k14 : FS :=
  (fSeq (fAsg (.nm 0) (eLst (aCons (eTup (aCons (eC (.int 2)) (aCons (eC (.int 3)) aNil))) (aCons (eTup (aCons (eC (.int 3)) (aCons (eC (.int 2)) aNil))) (aCons (eTup (aCons (eC (.int 3)) (aCons (eC (.int 3)) aNil))) (aCons (eTup (aCons (eC (.int 2)) (aCons (eC (.int 4)) aNil))) (aCons (eTup (aCons (eC (.int 4)) (aCons (eC (.int 2)) aNil))) (aCons (eTup (aCons (eC (.int 1)) (aCons (eC (.int 4)) aNil))) (aCons (eTup (aCons (eC (.int 4)) (aCons (eC (.int 1)) aNil))) (aCons (eTup (aCons (eBin (gIC cPow fun i j => i ^ j.toNat) (eC (.int 10)) (eC (.int 20))) (aCons (eBin (gIC cPow fun i j => i ^ j.toNat) (eC (.int 10)) (eC (.int 20))) aNil))) (aCons (eTup (aCons (eC (.int 1)) (aCons (eC (.int 5)) aNil))) (aCons (eTup (aCons (eC (.int 0)) (aCons (eC (.int 4)) aNil))) aNil))))))))))))
  (fSeq (fAsg (.nm 0) (eBin gAdd (eVar 0) (eLst (aCons (eTup (aCons (eC (.int 4)) (aCons (eC (.int 0)) aNil))) (aCons (eTup (aCons (eUn gNeg (eC (.int 2))) (aCons (eUn gNeg (eC (.int 2))) aNil))) aNil)))))
  (fSeq (fFor (iSeq (eBin gAdd (eVar 0) (eLst (aCons (eTup (aCons (eC (.bl true)) (aCons (eC (.int 2)) aNil))) (aCons (eTup (aCons (eC (.int 2)) (aCons (eC .non) aNil))) (aCons (eTup (aCons (eC (.str "1")) (aCons (eC (.int 1)) aNil))) aNil)))))) (.nm 1) L__law_floors_right_k14_1)
  (fSeq (fFor (iSeq (eLst (aCons (eTup (aCons (eC (.int 2)) (aCons (eC (.int 2)) (aCons (eC (.int 4)) (aCons (eC (.int 12)) aNil))))) (aCons (eTup (aCons (eC (.int 1)) (aCons (eC (.int 3)) (aCons (eC (.int 3)) (aCons (eC (.int 10)) aNil))))) (aCons (eTup (aCons (eC (.int 3)) (aCons (eC (.int 1)) (aCons (eC (.int 3)) (aCons (eC (.int 10)) aNil))))) (aCons (eTup (aCons (eC (.int 1)) (aCons (eC (.int 2)) (aCons (eC (.int 2)) (aCons (eC (.int 7)) aNil))))) (aCons (eTup (aCons (eC (.int 1)) (aCons (eC (.int 1)) (aCons (eC (.int 1)) (aCons (eC (.int 4)) aNil))))) aNil))))))) (.tp [2, 3, 4, 5]) L__law_floors_right_k14_2)
  (fRet (eBin gEq (eCallF F_floor_net [false, false] (aCons (eC (.int 1)) (aCons (eC (.int 1)) aNil))) (eTup (aCons (eC (.int 1)) (aCons (eBin gMul (eLst (aCons (eTup (aCons (eUn gNeg (eC (.int 1))) (aCons (eC (.int 0)) aNil))) aNil)) (eC (.int 4))) aNil)))))))))
def F__law_floors_right_k14 : Fn := runFn 7 Fb__law_floors_right_k14
def Fb__law_endings_right_k14 : FS :=
  (fSeq (fNew 1 (nLst (aCons (eC (.int 3)) aNil)))
  (fSeq (fIf (tOr (tE (eBin gNe (eCallR F_ending (aCons (eVar 1) (aCons (eLst aNil) aNil))) (eUn gNeg (eC (.int 3))))) (tOr (tE (eBin gNe (eCallR F_openings (aCons (eVar 1) (aCons (eLst aNil) aNil))) (eLst (aCons (eTup (aCons (eC (.str "chain")) (aCons (eC (.int 3)) aNil))) aNil)))) (tE (eBin gNe (eBin gIx (eCallR F_ending_net (aCons (eVar 1) (aCons (eLst aNil) aNil))) (eC (.int 0))) (eC (.int 3)))))) (fRet (eC (.bl false))) fSkip)
  (fSeq (fSetIx (eBin gAdd (eC (.int 4)) (eVar 0)) (eVar 1) (eC (.int 0)))
  (fSeq (fIf (tOr (tE (eBin gNe (eCallR F_ending (aCons (eVar 1) (aCons (eLst aNil) aNil))) (eBin (gI fun i j => i - j) (eUn gNeg (eC (.int 4))) (eVar 0)))) (tE (eBin gNe (eCallR F_openings (aCons (eVar 1) (aCons (eLst aNil) aNil))) (eLst (aCons (eTup (aCons (eC (.str "chain")) (aCons (eBin gAdd (eC (.int 4)) (eVar 0)) aNil))) aNil))))) (fRet (eC (.bl false))) fSkip)
  (fSeq (fSetIx (eC (.int 4)) (eVar 1) (eC (.int 0)))
  (fSeq (fIf (tOr (tE (eBin gNe (eBin gIx (eCallR F_ending_net (aCons (eVar 1) (aCons (eLst aNil) aNil))) (eC (.int 0))) (eC (.int 4)))) (tOr (tE (eBin gNe (eCallR F_ending (aCons (eLst aNil) (aCons (eVar 1) aNil))) (eUn gNeg (eC (.int 4))))) (tE (eBin gNe (eCallR F_openings (aCons (eLst aNil) (aCons (eVar 1) aNil))) (eLst (aCons (eTup (aCons (eC (.str "ring")) (aCons (eC (.int 4)) aNil))) aNil)))))) (fRet (eC (.bl false))) fSkip)
  (fSeq (fNew 2 (nLst aNil))
  (fSeq (fIf (tE (eBin gNe (eCallR F_reply (aCons (eC (.str "chain")) (aCons (eC (.int 3)) (aCons (eVar 2) (aCons (eLst aNil) aNil))))) (eC (.str "all")))) (fRet (eC (.bl false))) fSkip)
  (fSeq (fDrop (eMc gApp (eVar 2) (aCons (eC (.int 3)) aNil)))
  (fSeq (fIf (tOr (tE (eBin gNe (eCallR F_reply (aCons (eC (.str "chain")) (aCons (eC (.int 3)) (aCons (eVar 2) (aCons (eLst aNil) aNil))))) (eC (.str "leave")))) (tE (eBin gNe (eVar 2) (eLst (aCons (eC (.int 3)) aNil))))) (fRet (eC (.bl false))) fSkip)
  (fSeq (fIf (tOr (tE (eBin gNe (eCallR F_ending (aCons (eVar 1) (aCons (eVar 1) aNil))) (eC (.int 0)))) (tOr (tE (eBin gNe (eCallR F_openings (aCons (eVar 1) (aCons (eVar 1) aNil))) (eLst (aCons (eTup (aCons (eC (.str "ring")) (aCons (eC (.int 4)) aNil))) aNil)))) (tE (eBin gNe (eVar 1) (eLst (aCons (eC (.int 4)) aNil)))))) (fRet (eC (.bl false))) fSkip)
  (fSeq (fAsg (.nm 3) (eCallR F_ending_net (aCons (eVar 1) (aCons (eVar 1) aNil))))
  (fRet (eT (tAnd (tE (eBin gEq (eBin gIx (eVar 3) (eC (.int 0))) (eC (.int 8)))) (tAnd (tE (eBin gEq (eCall gLen (aCons (eBin gIx (eVar 3) (eC (.int 1))) aNil)) (eC (.int 9)))) (tE (eBin gEq (eVar 1) (eLst (aCons (eC (.int 4)) aNil))))))))))))))))))))
def F__law_endings_right_k14 : Fn := runFn 4 Fb__law_endings_right_k14
def L_play_by_X_1 : FS :=
  (fSeq (fAsg (.nm 8) (eCall gSorted (aCons (eBin gAdd (eVar 5) (eLst (aCons (eVar 7) aNil))) aNil)))
  (fSeq (fAsg (.nm 9) (eCallF (F_plays_of 20) [false, false, true, true] (aCons (eVar 0) (aCons (eVar 8) (aCons (eVar 3) (aCons (eVar 4) aNil))))))
  (fSeq (fIf (tE (eBin gLt (eVar 2) (eVar 9))) (fSeq (fDrop (eMc gApp (eVar 6) (aCons (eVar 7) aNil)))
  (fSeq (fAsg (.nm 5) (eVar 8))
  fBrk)) fSkip)
  (fAsg (.nm 2) (eBin (gI fun i j => i - j) (eVar 2) (eVar 9))))))
def T_play_by_X_1 : FT :=
  (tE (eBin gLt (eCall gLen (aCons (eVar 5) aNil)) (eCall gLen (aCons (eBin gIx (eVar 0) (eC (.int 1))) aNil))))
def L_play_by_X_2 : FS :=
  (fFor (iSeq (eCallF F_best_of [false, false, true] (aCons (eVar 0) (aCons (eVar 5) (aCons (eVar 3) aNil))))) (.nm 7) L_play_by_X_1)
def Fb_play_by_X : FS :=
  (fSeq (fDrop (eCallF F_asked_drawn [false, false] (aCons (eVar 0) (aCons (eVar 1) aNil))))
  (fSeq (fParM [3, 4] (mD (mD mNil)))
  (fSeq (fIf (tOr (tNot (tE (eCallF F_is_whole [false] (aCons (eVar 2) aNil)))) (tNot (tE (eChain gLe gLt (eC (.int 0)) (eVar 2) (eCallF (F_plays_of 20) [false, false, true, true] (aCons (eVar 0) (aCons (eVar 1) (aCons (eVar 3) (aCons (eVar 4) aNil))))))))) (fRaise 4) fSkip)
  (fSeq (fParM [5, 6] (mE (eCall gList (aCons (eVar 1) aNil)) (mN (nLst aNil) mNil)))
  (fSeq (fWhile 10000 T_play_by_X_1 L_play_by_X_2)
  (fRet (eVar 6)))))))
def F_play_by_X : Fn := runX 10 Fb_play_by_X
def L__law_sides_right_1 : FS :=
  (fSeq (fIf (tOr (tE (eBin gNe (eCallR F_opened (aCons (eVar 1) (aCons (eLst aNil) aNil))) (eLst (aCons (eC (.int 1)) (aCons (eC (.int 1)) aNil))))) (tOr (tE (eBin gNe (eCallR F_best (aCons (eVar 1) (aCons (eLst aNil) aNil))) (eLst (aCons (eC (.int 0)) (aCons (eC (.int 1)) aNil))))) (tOr (tE (eBin gNe (eCallR F_best_plays (aCons (eVar 1) (aCons (eLst aNil) aNil))) (eC (.int 2)))) (tE (eBin gNe (eCallR F_worth (aCons (eVar 1) (aCons (eLst aNil) aNil))) (eC (.int 2))))))) (fRet (eC (.bl false))) fSkip)
  (fSeq (fIf (tOr (tE (eBin gNe (eCallR F_play_by (aCons (eVar 1) (aCons (eLst aNil) (aCons (eC (.int 1)) aNil)))) (eLst (aCons (eC (.int 1)) (aCons (eC (.int 0)) aNil))))) (tNot (tE (eRef 1 "_law_sides_right" (fbC F_play_by_X (aCons (eVar 2) (aCons (eLst aNil) (aCons (eVar 0) aNil)))) (aCons (eC (.int 2)) (aCons (eC (.int 4)) aNil)))))) (fRet (eC (.bl false))) fSkip)
  (fSeq (fSetIx (eTup (aCons (eC (.int 0)) (aCons (eC (.int 1)) aNil))) (eVar 0) (eC (.int 1)))
  (fSeq (fIf (tOr (tE (eBin gNe (eCallR F_opened (aCons (eVar 1) (aCons (eLst aNil) aNil))) (eLst (aCons (eC (.int 2)) (aCons (eC (.int 1)) aNil))))) (tOr (tE (eBin gNe (eCallR F_best (aCons (eVar 1) (aCons (eLst aNil) aNil))) (eLst (aCons (eC (.int 1)) aNil)))) (tOr (tE (eBin gNe (eCallR F_best_plays (aCons (eVar 1) (aCons (eLst aNil) aNil))) (eC (.int 1)))) (tE (eBin gNe (eCallR F_worth (aCons (eVar 1) (aCons (eLst aNil) aNil))) (eC (.int 2))))))) (fRet (eC (.bl false))) fSkip)
  (fSeq (fIf (tOr (tE (eBin gNe (eCallR F_play_by (aCons (eVar 1) (aCons (eLst aNil) (aCons (eC (.int 0)) aNil)))) (eLst (aCons (eC (.int 1)) (aCons (eC (.int 0)) aNil))))) (tNot (tE (eRef 1 "_law_sides_right" (fbC F_play_by_X (aCons (eVar 2) (aCons (eLst aNil) (aCons (eVar 0) aNil)))) (aCons (eC (.int 1)) (aCons (eC (.int 4)) aNil)))))) (fRet (eC (.bl false))) fSkip)
  (fSetIx (eTup (aCons (eUn gNeg (eC (.int 1))) (aCons (eC (.int 1)) aNil))) (eVar 0) (eC (.int 1))))))))
def Fb__law_sides_right : FS :=
  (fSeq (fNew 0 (nLst (aCons (eTup (aCons (eUn gNeg (eC (.int 1))) (aCons (eC (.int 0)) aNil))) (aCons (eTup (aCons (eUn gNeg (eC (.int 1))) (aCons (eC (.int 1)) aNil))) aNil))))
  (fSeq (fAsg (.nm 1) (eTup (aCons (eC (.int 2)) (aCons (eVar 0) aNil))))
  (fSeq (fFor (iRange1 (eC (.int 2))) (.nm 2) L__law_sides_right_1)
  (fRet (eBin gEq (eVar 1) (eTup (aCons (eC (.int 2)) (aCons (eLst (aCons (eTup (aCons (eUn gNeg (eC (.int 1))) (aCons (eC (.int 0)) aNil))) (aCons (eTup (aCons (eUn gNeg (eC (.int 1))) (aCons (eC (.int 1)) aNil))) aNil))) aNil))))))))
def F__law_sides_right : Fn := runFn 3 Fb__law_sides_right
def Fb_law_k14 : FS :=
  (fSeq (fAsg (.nm 1) (eCall gAbs (aCons (eCall gSum (aCons (eSl (eVar 0) oNone (oSome (eC (.int 63)))) aNil)) aNil)))
  (fRet (eT (tAnd (tE (eCallG F__law_floors_right_k14 aNil)) (tAnd (tE (eCallF F__law_endings_right_k14 [false] (aCons (eBin (gIC cMod fun i j => i % j) (eVar 1) (eC (.int 997))) aNil))) (tE (eCallG F__law_sides_right aNil)))))))
def F_law_k14 : Fn := runFn 2 Fb_law_k14
end BL
set_option Elab.async false
set_option linter.all false
set_option maxRecDepth 100000
set_option maxHeartbeats 2000000
/-! PL1: tools for the plain laws. -/
namespace BL
open PySem BX
/-! ### data without places -/
mutual
theorem rsv_nl (f : Nat → Option D) : ∀ {d : D}, nl d = true → rsv f d = some d
  | .non, _ => rfl
  | .bl _, _ => rfl
  | .int _, _ => rfl
  | .str _, _ => rfl
  | .emp, _ => rfl
  | .exn _, _ => rfl
  | .obj t xs, h => by rw [rsv, rsvs_nl f h]; rfl
  | .lst xs, h => by rw [rsv, rsvs_nl f h]; rfl
  | .tup xs, h => by rw [rsv, rsvs_nl f h]; rfl
  | .frz xs, h => by rw [rsv, rsvs_nl f h]; rfl
  | .loc _, h => by cases h
theorem rsvs_nl (f : Nat → Option D) : ∀ {ds : List D}, nls ds = true → rsvs f ds = some ds
  | [], _ => rfl
  | d :: ds, h => by
    rw [nls, Bool.and_eq_true] at h
    rw [rsvs, rsv_nl f h.1, rsvs_nl f h.2]
    rfl
end
theorem rsM_nl {M : List MO} {d : D} (h : nl d = true) : rsM M d = some d := rsv_nl _ h
mutual
/-- no place, not deeper than n -/
def gd : Nat → D → Bool
  | _, .non => true
  | _, .bl _ => true
  | _, .int _ => true
  | _, .str x => (py (.str x)).canLay0
  | n + 1, .lst xs => gds n xs
  | n + 1, .tup xs => gds n xs
  | n + 1, .frz xs => gds n xs
  | _, _ => false
def gds : Nat → List D → Bool
  | _, [] => true
  | n, d :: ds => gd n d && gds n ds
end
mutual
theorem gd_ok : ∀ {n : Nat} {d : D}, gd n d = true → nl d = true ∧ (py d).canLay0 = true ∧ (py d).depth ≤ n
  | n, .non, _ => ⟨rfl, rfl, by simp [py, PyData.depth]⟩
  | n, .bl _, _ => ⟨rfl, rfl, by simp [py, PyData.depth]⟩
  | n, .int _, _ => ⟨rfl, rfl, by simp [py, PyData.depth]⟩
  | n, .str x, h => ⟨rfl, by simpa [gd] using h, by simp [py, PyData.depth]⟩
  | n + 1, .lst xs, h => by
    rw [gd] at h
    obtain ⟨h1, h2, h3⟩ := gds_ok h
    exact ⟨h1, h2, by rw [py, PyData.depth]; omega⟩
  | n + 1, .tup xs, h => by
    rw [gd] at h
    obtain ⟨h1, h2, h3⟩ := gds_ok h
    exact ⟨h1, h2, by rw [py, PyData.depth]; omega⟩
  | n + 1, .frz xs, h => by
    rw [gd] at h
    obtain ⟨h1, h2, h3⟩ := gds_ok h
    exact ⟨h1, h2, by rw [py, PyData.depth]; omega⟩
  | 0, .lst xs, h => by simp [gd] at h
  | 0, .tup xs, h => by simp [gd] at h
  | 0, .frz xs, h => by simp [gd] at h
  | _, .loc _, h => by simp [gd] at h
  | _, .emp, h => by simp [gd] at h
  | _, .obj _ _, h => by simp [gd] at h
theorem gds_ok : ∀ {n : Nat} {ds : List D}, gds n ds = true → nls ds = true ∧ PyData.canLayAll0 (pys ds) = true ∧ PyData.depthAll (pys ds) ≤ n
  | n, [], _ => ⟨rfl, rfl, by simp [pys, PyData.depthAll]⟩
  | n, d :: ds, h => by
    rw [gds, Bool.and_eq_true] at h
    obtain ⟨h1, h2, h3⟩ := gd_ok h.1
    obtain ⟨h4, h5, h6⟩ := gds_ok h.2
    refine ⟨by rw [nls, h1, h4]; rfl, by rw [pys, PyData.canLayAll0, h2, h5]; rfl, ?_⟩
    rw [pys, PyData.depthAll]
    omega
end
theorem gds_of {n : Nat} : ∀ {ds : List D}, (∀ d ∈ ds, gd n d = true) → gds n ds = true
  | [], _ => by rw [gds]
  | d :: ds, h => by rw [gds, h d List.mem_cons_self, gds_of fun e he => h e (List.mem_cons_of_mem _ he)]; rfl
theorem gd_shaped {n : Nat} {d : D} (h : gd n d = true) (hn : n ≤ 30 := by decide) : SeqAt.shaped (py d) = true := by
  obtain ⟨_, h2, h3⟩ := gd_ok h
  unfold SeqAt.shaped
  rw [h2, Bool.true_and, decide_eq_true_eq]
  omega
theorem eqD_gd {M : List MO} {n : Nat} {d e : D} (h : gd n d = true) (h2 : gd n e = true) (hn : n ≤ 30 := by decide) : eqD M d e = some (PyData.eqv (py d) (py e)) := by
  unfold eqD
  rw [rsM_nl (gd_ok h).1, rsM_nl (gd_ok h2).1, Option.bind_some, Option.bind_some, if_pos ⟨gd_shaped h hn, gd_shaped h2 hn⟩]
theorem eqD_self {M : List MO} {n : Nat} {d : D} (h : gd n d = true) (hn : n ≤ 30 := by decide) : eqD M d d = some true := by
  rw [eqD_gd h h hn, SeqAt.eqv_refl _ (gd_ok h).2.1]
theorem eqD_int {M : List MO} (i j : Int) : eqD M (.int i) (.int j) = some (decide (i = j)) := by
  rw [eqD_gd (n := 0) rfl rfl]
  simp only [py, PyData.eqv]
  congr 1
theorem gEq_int {M : List MO} (i j : Int) : gEq M (.int i) (.int j) = some (.bl (decide (i = j))) := by rw [gEq, eqD_int]; rfl
theorem gNe_int {M : List MO} (i j : Int) : gNe M (.int i) (.int j) = some (.bl (!decide (i = j))) := by rw [gNe, eqD_int]; rfl
theorem gNe_self {M : List MO} {n : Nat} {d : D} (h : gd n d = true) (hn : n ≤ 30 := by decide) : gNe M d d = some (.bl false) := by rw [gNe, eqD_self h hn]; rfl
theorem gEq_self {M : List MO} {n : Nat} {d : D} (h : gd n d = true) (hn : n ≤ 30 := by decide) : gEq M d d = some (.bl true) := by rw [gEq, eqD_self h hn]; rfl
theorem gLt_int {M : List MO} (i j : Int) : gLt M (.int i) (.int j) = some (.bl (decide (i < j))) := rfl
theorem gLe_int {M : List MO} (i j : Int) : gLe M (.int i) (.int j) = some (.bl (decide (i ≤ j))) := rfl
theorem gGt_int {M : List MO} (i j : Int) : gGt M (.int i) (.int j) = some (.bl (decide (j < i))) := rfl
theorem gGe_int {M : List MO} (i j : Int) : gGe M (.int i) (.int j) = some (.bl (decide (j ≤ i))) := rfl
theorem gAdd_int {M : List MO} (i j : Int) : gAdd M (.int i) (.int j) = some (.int (i + j)) := rfl
/-! ### numbers as data -/
abbrev isD (xs : List Int) : D := .lst (xs.map D.int)
def sdD (s : Int × Int) : D := .tup [.int s.1, .int s.2]
abbrev ssD (ss : List (Int × Int)) : D := .lst (ss.map sdD)
abbrev netD (n : Int) (ss : List (Int × Int)) : D := .tup [.int n, ssD ss]
theorem gds_ints (n : Nat) : ∀ xs : List Int, gds n (xs.map D.int) = true
  | [] => by rw [List.map_nil, gds]
  | x :: xs => by rw [List.map_cons, gds, gds_ints n xs, gd]; rfl
theorem gd_isD (n : Nat) (xs : List Int) : gd (n + 1) (isD xs) = true := by rw [gd]; exact gds_ints n xs
theorem gd_sdD (n : Nat) (s : Int × Int) : gd (n + 1) (sdD s) = true := by simp [sdD, gd, gds]
theorem gds_ss (n : Nat) (ss : List (Int × Int)) : gds (n + 1) (ss.map sdD) = true := gds_of fun d h => by
  obtain ⟨s, _, rfl⟩ := List.mem_map.mp h
  exact gd_sdD n s
theorem gd_ssD (n : Nat) (ss : List (Int × Int)) : gd (n + 2) (ssD ss) = true := by rw [gd]; exact gds_ss n ss
theorem gd_netD (n : Nat) (k : Int) (ss : List (Int × Int)) : gd (n + 3) (netD k ss) = true := by
  rw [gd, gds, gds, gd_ssD, gds, gd]
  rfl
theorem nls_ints (xs : List Int) : nls (xs.map D.int) = true := (gds_ok (gds_ints 0 xs)).1
theorem nls_ss (ss : List (Int × Int)) : nls (ss.map sdD) = true := (gds_ok (gds_ss 0 ss)).1
theorem nl_isD (xs : List Int) : nl (isD xs) = true := nls_ints xs
theorem nl_ssD (ss : List (Int × Int)) : nl (ssD ss) = true := nls_ss ss
theorem nl_netD (k : Int) (ss : List (Int × Int)) : nl (netD k ss) = true := (gd_ok (gd_netD 0 k ss)).1
theorem nl_int (i : Int) : nl (.int i) = true := rfl
theorem nl_sdD (s : Int × Int) : nl (sdD s) = true := rfl
theorem boolsD_map : ∀ bs : List Bool, boolsD (bs.map D.bl) = some bs
  | [] => rfl
  | b :: bs => by rw [List.map_cons, boolsD, boolsD_map bs]; rfl
theorem gAll_map {α : Type} {M : List MO} (p : α → Bool) (as : List α) : gAll M [.lst (as.map fun a => .bl (p a))] = some (.bl (as.all p)) := by
  have h : (as.map fun a => D.bl (p a)) = (as.map p).map D.bl := by rw [List.map_map]; rfl
  rw [gAll, h]
  show (boolsD _).map _ = _
  rw [boolsD_map]
  simp [List.all_map]
theorem gAny_map {α : Type} {M : List MO} (p : α → Bool) (as : List α) : gAny M [.lst (as.map fun a => .bl (p a))] = some (.bl (as.any p)) := by
  have h : (as.map fun a => D.bl (p a)) = (as.map p).map D.bl := by rw [List.map_map]; rfl
  rw [gAny, h]
  show (boolsD _).map _ = _
  rw [boolsD_map]
  simp [List.any_map]
theorem eqF_int (i j : Int) : eqF (.int i) (.int j) = decide (i = j) := rfl
theorem inD_ints {M : List MO} {i : Int} {d : D} {xs : List Int} (h : asS M d = some (xs.map D.int)) : inD M (.int i) d = some (decide (i ∈ xs)) := by
  have hf : (xs.map D.int).all flatD = true := by simp [List.all_map, flatD]
  unfold inD
  rw [h, Option.bind_some, if_pos ⟨rfl, hf⟩]
  congr 1
  rw [Bool.eq_iff_iff]
  simp [List.any_map, eqF]
theorem gIn_ints {M : List MO} {i : Int} {d : D} {xs : List Int} (h : asS M d = some (xs.map D.int)) : gIn M (.int i) d = some (.bl (decide (i ∈ xs))) := by rw [gIn, inD_ints h]; rfl
theorem gNin_ints {M : List MO} {i : Int} {d : D} {xs : List Int} (h : asS M d = some (xs.map D.int)) : gNin M (.int i) d = some (.bl (!decide (i ∈ xs))) := by rw [gNin, inD_ints h]; rfl
theorem gIn_sd {M : List MO} {i : Int} {s : Int × Int} : gIn M (.int i) (sdD s) = some (.bl (decide (i = s.1 ∨ i = s.2))) := by
  rw [gIn_ints (xs := [s.1, s.2]) rfl]
  simp
theorem gIn_isD {M : List MO} {i : Int} {xs : List Int} : gIn M (.int i) (isD xs) = some (.bl (decide (i ∈ xs))) := gIn_ints rfl
theorem gNin_isD {M : List MO} {i : Int} {xs : List Int} : gNin M (.int i) (isD xs) = some (.bl (!decide (i ∈ xs))) := gNin_ints rfl
/-! ### loops, comprehensions -/
theorem compL_map {α : Type} {pt : Pat} {ft : FT} {fe : FE} {env : En} {M : List MO} (dd : α → D) (p : α → Bool) (g : α → D) : ∀ as : List α, (∀ a ∈ as, ∃ e1, bindP pt (dd a) env = some e1 ∧ ft e1 M = some (p a, M) ∧ (p a = true → fe e1 M = some (g a, M))) →
    compL pt ft fe env (as.map dd) M = some ((as.filter p).map g, M)
  | [], _ => rfl
  | a :: as, h => by
    obtain ⟨e1, h1, h2, h3⟩ := h a List.mem_cons_self
    have ih := compL_map (pt := pt) (ft := ft) (fe := fe) (env := env) (M := M) dd p g as fun b hb => h b (List.mem_cons_of_mem _ hb)
    rw [List.map_cons, compL, h1, Option.bind_some, h2, Option.bind_some]
    cases hp : p a with
    | true =>
      simp only [if_true, h3 hp, Option.bind_some, ih, Option.map_some, List.filter_cons, hp, List.map_cons]
    | false =>
      simp only [Bool.false_eq_true, if_false, ih, List.filter_cons, hp]
theorem compL_all {α : Type} {pt : Pat} {fe : FE} {env : En} {M : List MO} (dd : α → D) (g : α → D) (as : List α) (h : ∀ a ∈ as, ∃ e1, bindP pt (dd a) env = some e1 ∧ fe e1 M = some (g a, M)) :
    compL pt tYesF fe env (as.map dd) M = some (as.map g, M) := by
  have := compL_map (pt := pt) (ft := tYesF) (fe := fe) (env := env) (M := M) dd (fun _ => true) g as fun a ha => by
    obtain ⟨e1, h1, h2⟩ := h a ha
    exact ⟨e1, h1, rfl, fun _ => h2⟩
  rw [this, List.filter_eq_self.mpr (fun _ _ => rfl)]
theorem forL_inv {pt : Pat} {body : FS} {I : Nat → En → List MO → Prop} : ∀ {ds : List D} {j : Nat} {env : En} {M : List MO}, (∀ i d env M, ds[i]? = some d → I (j + i) env M → ∃ e1 env' M', bindP pt d env = some e1 ∧ (body e1 M = some (.nx env' M') ∨ body e1 M = some (.ct env' M')) ∧ I (j + i + 1) env' M') →
    I j env M → ∃ env' M', forL pt body ds env M = some (.nx env' M') ∧ I (j + ds.length) env' M'
  | [], j, env, M, _, h0 => ⟨env, M, rfl, h0⟩
  | d :: ds, j, env, M, hs, h0 => by
    obtain ⟨e1, env', M', h1, h2, h3⟩ := hs 0 d env M rfl h0
    obtain ⟨env2, M2, h4, h5⟩ := forL_inv (pt := pt) (body := body) (I := I) (ds := ds) (j := j + 1) (env := env') (M := M') (fun i d env M hd hi => by
      have e : j + 1 + i = j + (i + 1) := by omega
      rw [e] at hi ⊢
      exact hs (i + 1) d env M (by simpa using hd) hi) h3
    refine ⟨env2, M2, ?_, by rw [List.length_cons, show j + (ds.length + 1) = j + 1 + ds.length by omega]; exact h5⟩
    rw [forL, h1, Option.bind_some]
    rcases h2 with h2 | h2 <;> rw [h2, Option.bind_some] <;> exact h4
/-! ### calls with data -/
def callV (F : Fn) (ds : List D) (M : List MO) : Option (D × List MO) := (F ds []).bind fun o => match o with
  | .rt d M' => (rsv (lkF 0 4 M') d).map fun d' => (d', M)
  | _ => none
def callN (F : Fn) (ds : List D) (M : List MO) : Option (List D × List MO) := (F ds []).bind fun o => match o with
  | .rt (.loc k) M' => match M'[k]? with
    | some (.lst ds) => if nls ds = true then some (ds, M) else none
    | _ => none
  | _ => none
def callM (F : Fn) (ds : List D) (M : List MO) : Option (List Mx × List MO) := (F ds []).bind fun o => match o with
  | .rt (.tup ds) M' => (thawL 0 M' ds).bind fun t => if distinct t.2 = true then some (t.1, M) else none
  | _ => none
theorem prep_data : ∀ {ds : List D} {js : List Bool} (i : Nat), js = List.replicate ds.length false → nls ds = true → prep js ds i = some (ds, [])
  | [], js, i, e, _ => by subst e; rfl
  | d :: ds, js, i, e, h => by
    subst e
    rw [nls, Bool.and_eq_true] at h
    rw [List.length_cons, List.replicate_succ, prep, if_pos h.1, prep_data i rfl h.2]
    rfl
theorem callF_data {F : Fn} {js : List Bool} {args : FA} {env : En} {M M1 : List MO} {ds : List D} (h : args env M = some (ds, M1)) (hn : nls ds = true) (hj : js = List.replicate ds.length false) : eCallF F js args env M = callV F ds M1 := by
  unfold eCallF callV
  rw [h, Option.bind_some, prep_data 0 hj hn, Option.bind_some]
  simp only [distinct, if_true, getAll, Option.bind_some, List.length_nil]
  congr 1
  funext o
  cases o with
  | rt d m => simp only [putAll, Option.map_some]; cases rsv (lkF 0 4 m) d <;> rfl
  | _ => rfl
theorem nCallF_data {F : Fn} {js : List Bool} {args : FA} {env : En} {M M1 : List MO} {ds : List D} (h : args env M = some (ds, M1)) (hn : nls ds = true) (hj : js = List.replicate ds.length false) : nCallF F js args env M = callN F ds M1 := by
  unfold nCallF callN
  rw [h, Option.bind_some, prep_data 0 hj hn, Option.bind_some]
  simp only [distinct, if_true, getAll, Option.bind_some, List.length_nil]
  congr 1
  funext o
  cases o with
  | rt d m =>
    cases d with
    | loc k =>
      simp only [putAll, Option.map_some, Nat.not_lt_zero, if_false] <;>
      cases m[k]? with
      | none => rfl
      | some o => cases o <;> rfl
    | _ => rfl
  | _ => rfl
theorem mCallT_data {F : Fn} {js : List Bool} {args : FA} {env : En} {M M1 : List MO} {ds : List D} (h : args env M = some (ds, M1)) (hn : nls ds = true) (hj : js = List.replicate ds.length false) : mCallT F js args env M = callM F ds M1 := by
  unfold mCallT callM
  rw [h, Option.bind_some, prep_data 0 hj hn, Option.bind_some]
  simp only [distinct, if_true, getAll, Option.bind_some, List.length_nil]
  congr 1
  funext o
  cases o with
  | rt d m =>
    cases d with
    | tup k => simp [putAll]
    | _ => rfl
  | _ => rfl
theorem nls_cons {d : D} {ds : List D} : nls (d :: ds) = (nl d && nls ds) := rfl
theorem call1 {F : Fn} {a : FE} {env : En} {M : List MO} : eCallF F [false] (aCons a aNil) env M = (a env M).bind fun r => if nl r.1 = true then callV F [r.1] r.2 else none := by
  cases h : a env M with
  | none => simp [eCallF, aCons, h]
  | some r =>
    rw [Option.bind_some]
    by_cases hn : nl r.1 = true
    · rw [if_pos hn]
      exact callF_data (by simp [aCons, aNil, h]) (by simp [nls, hn]) rfl
    · rw [if_neg hn]
      simp [eCallF, aCons, aNil, h, prep, hn]
theorem call2 {F : Fn} {a b : FE} {env : En} {M : List MO} : eCallF F [false, false] (aCons a (aCons b aNil)) env M = (a env M).bind fun r => (b env r.2).bind fun s => if (nl r.1 && nl s.1) = true then callV F [r.1, s.1] s.2 else none := by
  cases h : a env M with
  | none => simp [eCallF, aCons, h]
  | some r =>
    rw [Option.bind_some]
    cases h2 : b env r.2 with
    | none => simp [eCallF, aCons, h, h2]
    | some s =>
      rw [Option.bind_some]
      by_cases hn : (nl r.1 && nl s.1) = true
      · rw [if_pos hn]
        exact callF_data (by simp [aCons, aNil, h, h2]) (by simpa [nls] using hn) rfl
      · rw [if_neg hn]
        simp only [eCallF, aCons, aNil, h, h2, Option.bind_some, Option.map_some, prep]
        cases h3 : nl r.1 with
        | false => rfl
        | true =>
          cases h4 : nl s.1 with
          | false => rfl
          | true => simp [h3, h4] at hn
theorem call3 {F : Fn} {a b c : FE} {env : En} {M : List MO} {r s t : D × List MO} (h1 : a env M = some r) (h2 : b env r.2 = some s) (h3 : c env s.2 = some t) (hn : (nl r.1 && nl s.1 && nl t.1) = true) : eCallF F [false, false, false] (aCons a (aCons b (aCons c aNil))) env M = callV F [r.1, s.1, t.1] t.2 :=
  callF_data (by simp [aCons, aNil, h1, h2, h3]) (by simpa [nls, Bool.and_assoc] using hn) rfl
end BL

set_option Elab.async false
set_option linter.all false
set_option maxRecDepth 100000
set_option maxHeartbeats 4000000
/-! PX1: the asking def's answer. -/
namespace BL
open PySem BX
def nine (f : Int → Bool) : List D := [.bl (f 0), .bl (f 1), .bl (f 2), .bl (f 3), .bl (f 4), .bl (f 5), .bl (f 6), .bl (f 7), .bl (f 8)]
theorem nine_eq {c : Nat} {due : Int} (hc : c < 9) : gEq [] (.lst (nine fun j => decide ((c : Int) = j))) (.lst (nine fun j => decide (j = due))) = some (.bl (decide ((c : Int) = due))) := by
  have hcc : c = 0 ∨ c = 1 ∨ c = 2 ∨ c = 3 ∨ c = 4 ∨ c = 5 ∨ c = 6 ∨ c = 7 ∨ c = 8 := by omega
  by_cases h : 0 ≤ due ∧ due < 9
  · have hd : due = 0 ∨ due = 1 ∨ due = 2 ∨ due = 3 ∨ due = 4 ∨ due = 5 ∨ due = 6 ∨ due = 7 ∨ due = 8 := by omega
    rcases hd with rfl | rfl | rfl | rfl | rfl | rfl | rfl | rfl | rfl <;> rcases hcc with rfl | rfl | rfl | rfl | rfl | rfl | rfl | rfl | rfl <;> rfl
  · have n : (nine fun j => decide (j = due)) = nine fun _ => false := by
      unfold nine
      simp only [decide_eq_false (show ¬ (0 : Int) = due by omega), decide_eq_false (show ¬ (1 : Int) = due by omega), decide_eq_false (show ¬ (2 : Int) = due by omega), decide_eq_false (show ¬ (3 : Int) = due by omega), decide_eq_false (show ¬ (4 : Int) = due by omega),
        decide_eq_false (show ¬ (5 : Int) = due by omega), decide_eq_false (show ¬ (6 : Int) = due by omega), decide_eq_false (show ¬ (7 : Int) = due by omega), decide_eq_false (show ¬ (8 : Int) = due by omega)]
    rw [n, decide_eq_false (show ¬ (c : Int) = due by omega)]
    rcases hcc with rfl | rfl | rfl | rfl | rfl | rfl | rfl | rfl | rfl <;> rfl
theorem refG (a : Addr) (c : Nat) (due : Int) (hc : c < 9) : ∃ M', Gs__law_refused a c [none, none, some (.int due), some (.exn a), none, none] [] = some (.rt (.bl (decide ((c : Int) = due))) M') := by
  have is : ∀ (b : Bool) (e4 e5 : Option D) (M : List MO), eIsE 3 a b [none, none, some (.int due), some (.exn a), e4, e5] M = some (.bl b, M) := fun b e4 e5 M => by
    simp only [eIsE, Option.bind_some, Option.bind_none, Option.map_some, Option.map_none, List.map_cons, List.map_nil, List.length_cons, List.length_nil, List.replicate_succ, List.replicate_zero, List.cons_append, List.nil_append, List.append_nil, List.getElem?_cons_zero, List.getElem?_cons_succ, List.set_cons_zero, List.set_cons_succ, Nat.reduceAdd, Nat.reduceSub, if_true, if_false, Bool.true_and, Bool.and_true, Bool.false_and, Bool.and_false, Bool.not_true, Bool.not_false, Bool.or_true, Bool.true_or, Bool.or_false, Bool.false_or, Bool.false_eq_true, reduceCtorEq, Bool.not_not]
  have l3 : lim 3 = true := rfl
  have s9 : smallI 9 = true := rfl
  have u9 : (upFrom 0 (9 : Int).toNat) = [.int 0, .int 1, .int 2, .int 3, .int 4, .int 5, .int 6, .int 7, .int 8] := rfl
  have lu : lim 9 = true := rfl
  have ga : ∀ xs ys : List D, lim (xs.length + ys.length) = true → gAdd [] (.lst xs) (.lst ys) = some (.lst (xs ++ ys)) := fun xs ys h => by
    have a1 : ∀ zs, asL [] (.lst zs) = some zs := fun _ => rfl
    simp only [gAdd, a1, Option.bind_some, h, if_true]
  have g1 : ∀ a b c d e f : D, gAdd [] (.lst [a, b, c]) (.lst [d, e, f]) = some (.lst [a, b, c, d, e, f]) := fun _ _ _ _ _ _ => ga _ _ rfl
  have g2 : ∀ a b c d e f g h i : D, gAdd [] (.lst [a, b, c, d, e, f]) (.lst [g, h, i]) = some (.lst [a, b, c, d, e, f, g, h, i]) := fun _ _ _ _ _ _ _ _ _ => ga _ _ rfl
  have dc : ∀ j : Nat, decide (c = j) = decide ((c : Int) = (j : Int)) := fun j => decide_eq_decide.mpr (by omega)
  have ne := nine_eq (due := due) hc
  unfold nine at ne
  have e0 : ∀ (e4 : Option D) (M : List MO) (i : Int), (eBin gEq (eVar 5) (eVar 2)) [none, none, some (.int due), some (.exn a), e4, some (.int i)] M = some (.bl (decide (i = due)), M) := fun e4 M i => rfl
  have dd : (decide (c = 0) = decide ((c : Int) = 0)) ∧ (decide (c = 1) = decide ((c : Int) = 1)) ∧ (decide (c = 2) = decide ((c : Int) = 2)) ∧ (decide (c = 3) = decide ((c : Int) = 3)) ∧ (decide (c = 4) = decide ((c : Int) = 4)) ∧ (decide (c = 5) = decide ((c : Int) = 5)) ∧ (decide (c = 6) = decide ((c : Int) = 6)) ∧ (decide (c = 7) = decide ((c : Int) = 7)) ∧ (decide (c = 8) = decide ((c : Int) = 8)) :=
    ⟨dc 0, dc 1, dc 2, dc 3, dc 4, dc 5, dc 6, dc 7, dc 8⟩
  obtain ⟨d0, d1, d2, d3, d4, d5, d6, d7, d8⟩ := dd
  refine ⟨[], ?_⟩
  simp only [Gs__law_refused, fSeq, fAsg, fRet, eT, tAnd, tE, eLst, aCons, aNil, eBin, eVar, eC, eFr, nComp, iRange1, bindP, wipeE, compL, tYesF, Option.bind_some, Option.bind_none, Option.map_some, Option.map_none, List.map_cons, List.map_nil, List.length_cons, List.length_nil, List.replicate_succ, List.replicate_zero, List.cons_append, List.nil_append, List.append_nil, List.getElem?_cons_zero, List.getElem?_cons_succ, List.set_cons_zero, List.set_cons_succ, Nat.reduceAdd, Nat.reduceSub, if_true, if_false, Bool.true_and, Bool.and_true, Bool.false_and, Bool.and_false, Bool.not_true, Bool.not_false, Bool.or_true, Bool.true_or, Bool.or_false, Bool.false_or, Bool.false_eq_true, reduceCtorEq, Bool.not_not, is, l3, g1, g2, s9, u9, lu, gEq_int, d0, d1, d2, d3, d4, d5, d6, d7, d8, ne]
  cases decide ((c : Int) = due) <;> rfl
end BL

set_option Elab.async false
set_option linter.all false
set_option maxRecDepth 100000
set_option maxHeartbeats 2000000
/-! PN: the nets, plainly. -/
namespace BL
open PySem BX
theorem ixN_nat {n : Nat} {i : Int} (h0 : 0 ≤ i) (h1 : i < n) : L2.ixN n i = some i.toNat := by
  unfold L2.ixN
  rw [if_pos h0, if_pos (by omega)]
theorem ixN_neg {n : Nat} {i : Int} (h0 : i < 0) (h1 : -(n : Int) ≤ i) : L2.ixN n i = some (i + n).toNat := by
  unfold L2.ixN
  rw [if_neg (by omega), if_pos (by omega)]
theorem atI_nat {α : Type} {xs : List α} {k : Nat} {x : α} (h : xs[k]? = some x) : L2.atI xs (k : Int) = some x := by
  unfold L2.atI
  have hk := (List.getElem?_eq_some_iff.mp h).1
  rw [ixN_nat (by omega) (by omega), Option.bind_some]
  exact h
theorem gIx_nat {M : List MO} {d : D} {xs : List D} {k : Nat} {x : D} (hs : asS M d = some xs) (h : xs[k]? = some x) : gIx M d (.int (k : Int)) = some x := by
  unfold gIx
  rw [hs]
  exact atI_nat h
theorem gIx0 {M : List MO} {d : D} {x : D} {xs : List D} (hs : asS M d = some (x :: xs)) : gIx M d (.int 0) = some x := gIx_nat (k := 0) hs rfl
theorem gIx1 {M : List MO} {d : D} {x y : D} {xs : List D} (hs : asS M d = some (x :: y :: xs)) : gIx M d (.int 1) = some y := gIx_nat (k := 1) hs rfl
theorem net0 {M : List MO} {n : Int} {ss : List (Int × Int)} : gIx M (netD n ss) (.int 0) = some (.int n) := gIx0 rfl
theorem net1 {M : List MO} {n : Int} {ss : List (Int × Int)} : gIx M (netD n ss) (.int 1) = some (ssD ss) := gIx1 rfl
theorem sd0 {M : List MO} {s : Int × Int} : gIx M (sdD s) (.int 0) = some (.int s.1) := gIx0 rfl
theorem sd1 {M : List MO} {s : Int × Int} : gIx M (sdD s) (.int 1) = some (.int s.2) := gIx1 rfl
theorem is_whole_int {M : List MO} (i : Int) : callV F_is_whole [.int i] M = some (.bl true, M) := rfl
theorem gLen_lst {M : List MO} {xs : List D} : gLen M [.lst xs] = some (.int (xs.length : Nat)) := rfl
theorem gLen_tup {M : List MO} {xs : List D} : gLen M [.tup xs] = some (.int (xs.length : Nat)) := rfl
theorem is_side_sd {M : List MO} (s : Int × Int) (n : Int) : callV F_is_side [sdD s, .int n] M = some (.bl (decide (-1 ≤ s.1) && (decide (s.1 < s.2) && decide (s.2 < n))), M) := by
  have e0 : gIx [] (sdD s) (.int 0) = some (.int s.1) := sd0
  have e1 : gIx [] (sdD s) (.int 1) = some (.int s.2) := sd1
  have el : gLen [] [sdD s] = some (.int 2) := rfl
  have et : tyD [] (sdD s) = some .tup := rfl
  have ew : ∀ i M, callV F_is_whole [.int i] M = some (.bl true, M) := fun i M => is_whole_int i
  unfold callV F_is_side
  simp only [Fb_is_side, runFn, fSeq, fIf, fRet, fDrop, fAsg, fNew, fRetNew, fSkip, fRetN, fBrk, fCnt, tAnd, tOr, tNot, tE, eT, eBin, eUn, eC, eVar, eTup, eLst, eIf, eCall, eMc, eChain, eChain3, aNil, aCons, bindP, setAll, nLst, nBin, nCall, nSl, eSl, oNone, oSome, eFr, nComp, eIsi, tYesF, wipeE, iSeq, iEnumD, iRange1, iRange2, iRange3, fFor, Option.bind_some, Option.bind_none, Option.map_some, Option.map_none, List.map_cons, List.map_nil, List.length_cons, List.length_nil, List.replicate_succ, List.replicate_zero, List.cons_append, List.nil_append, List.append_nil, List.getElem?_cons_zero, List.getElem?_cons_succ, List.set_cons_zero, List.set_cons_succ, Nat.reduceAdd, Nat.reduceSub, if_true, if_false, Bool.true_and, Bool.and_true, Bool.false_and, Bool.and_false, Bool.not_true, Bool.not_false, Bool.or_true, Bool.true_or, Bool.or_false, Bool.false_or, Bool.false_eq_true, reduceCtorEq, Bool.not_not, call1, e0, e1, el, et, nl_int, ew, gNe_int, gNeg, gLe_int, gLt_int, subTy, decide_true]
  cases h1 : decide (-1 ≤ s.1) <;> cases h2 : decide (s.1 < s.2) <;> simp [h1, h2, rsv]
/-! ### sides in order -/
def sdLt (s t : Int × Int) : Bool := decide (s.1 < t.1 ∨ (s.1 = t.1 ∧ s.2 < t.2))
theorem sdLt_data (s t : Int × Int) : W.dataLt (py (sdD s)) (py (sdD t)) = sdLt s t := W.dataLt_ii _ _ _ _
theorem gGt_sd {M : List MO} (s t : Int × Int) : gGt M (sdD s) (sdD t) = some (.bl (sdLt t s)) := by
  show (cmpD _ _ M (sdD s) (sdD t)).map D.bl = _
  unfold cmpD
  rw [← sdLt_data]
  simp only [sdD]
  rw [rsM_nl (d := .tup [.int s.1, .int s.2]) rfl, rsM_nl (d := .tup [.int t.1, .int t.2]) rfl, Option.bind_some, Option.bind_some, if_pos ⟨gd_shaped (gd_sdD 0 s), gd_shaped (gd_sdD 0 t), rfl, rfl⟩]
  rfl
def insS (x : Int × Int) : List (Int × Int) → List (Int × Int)
  | [] => [x]
  | y :: ys => if sdLt y x = false then x :: y :: ys else y :: insS x ys
def srtS : List (Int × Int) → List (Int × Int)
  | [] => []
  | x :: xs => insS x (srtS xs)
theorem leD_sd (s t : Int × Int) : leD (sdD s) (sdD t) = !sdLt t s := by
  rw [← sdLt_data]
  rfl
theorem insD_sd (x : Int × Int) : ∀ ys, insD (sdD x) (ys.map sdD) = (insS x ys).map sdD
  | [] => rfl
  | y :: ys => by
    rw [List.map_cons, insD, insS, leD_sd, insD_sd x ys]
    cases sdLt y x <;> rfl
theorem srtD_sd : ∀ ss, srtD (ss.map sdD) = (srtS ss).map sdD
  | [] => rfl
  | s :: ss => by rw [List.map_cons, srtD, srtD_sd ss, insD_sd]; rfl
theorem insS_perm (x : Int × Int) : ∀ ys, (insS x ys).Perm (x :: ys)
  | [] => .refl _
  | y :: ys => by
    unfold insS
    split
    · exact .refl _
    · exact ((insS_perm x ys).cons y).trans (.swap x y ys)
theorem srtS_perm : ∀ ss, (srtS ss).Perm ss
  | [] => .refl _
  | s :: ss => (insS_perm s (srtS ss)).trans ((srtS_perm ss).cons s)
theorem insS_pw (x : Int × Int) : ∀ {ys}, ys.Pairwise (fun a b => sdLt b a = false) → (insS x ys).Pairwise (fun a b => sdLt b a = false)
  | [], _ => List.pairwise_singleton _ _
  | y :: ys, h => by
    rw [List.pairwise_cons] at h
    unfold insS
    split
    · rename_i hx
      refine List.pairwise_cons.mpr ⟨fun z hz => ?_, List.pairwise_cons.mpr h⟩
      rcases List.mem_cons.mp hz with rfl | hz
      · exact hx
      · have h1 := h.1 z hz
        simp only [sdLt, decide_eq_false_iff_not] at h1 hx ⊢
        omega
    · rename_i hx
      refine List.pairwise_cons.mpr ⟨fun z hz => ?_, insS_pw x h.2⟩
      rcases List.mem_cons.mp ((insS_perm x ys).mem_iff.mp hz) with rfl | hz
      · simp only [sdLt, decide_eq_false_iff_not] at hx ⊢
        omega
      · exact h.1 z hz
theorem srtS_pw : ∀ ss, (srtS ss).Pairwise (fun a b => sdLt b a = false)
  | [] => .nil
  | s :: ss => insS_pw s (srtS_pw ss)
theorem srtOk_sd (ss : List (Int × Int)) : srtOk (ss.map sdD) = true := by
  unfold srtOk
  rw [Bool.or_eq_true, Bool.and_eq_true]
  refine .inr ⟨?_, ?_⟩
  · cases ss with
    | nil => rfl
    | cons s ss =>
      show (ss.map sdD).all _ = true
      rw [List.all_map, List.all_eq_true]
      intro t _
      rfl
  · rw [List.all_eq_true]
    intro d hd
    obtain ⟨s, _, rfl⟩ := List.mem_map.mp hd
    rw [Bool.and_eq_true, Bool.and_eq_true]
    refine ⟨⟨gd_shaped (gd_sdD 0 s), ?_⟩, ?_⟩
    · rw [decide_eq_true_eq]
      exact Nat.le_trans (gd_ok (gd_sdD 0 s)).2.2 (by decide)
    · rw [List.all_eq_true]
      intro e he
      obtain ⟨t, _, rfl⟩ := List.mem_map.mp he
      rfl
theorem lim_of {n : Nat} (h : n ≤ 1000000) : lim n = true := decide_eq_true h
theorem gSorted_sd {M : List MO} {d : D} {ss : List (Int × Int)} (h : asR M d = some (ss.map sdD)) (hl : ss.length ≤ 1000000) : gSorted M [d] = some (ssD (srtS ss)) := by
  rw [gSorted, h, Option.bind_some, srtOk_sd, lim_of (by rw [List.length_map]; exact hl), nls_ss, srtD_sd]
  rfl
def insI (x : Int) : List Int → List Int
  | [] => [x]
  | y :: ys => if x ≤ y then x :: y :: ys else y :: insI x ys
def srtI : List Int → List Int
  | [] => []
  | x :: xs => insI x (srtI xs)
theorem insD_int (x : Int) : ∀ ys : List Int, insD (.int x) (ys.map D.int) = (insI x ys).map D.int
  | [] => rfl
  | y :: ys => by
    rw [List.map_cons, insD, insI, insD_int x ys]
    show (if decide (x ≤ y) = true then _ else _) = _
    by_cases h : x ≤ y
    · rw [if_pos (decide_eq_true h), if_pos h]; rfl
    · rw [if_neg (by simpa using h), if_neg h]; rfl
theorem srtD_int : ∀ xs : List Int, srtD (xs.map D.int) = (srtI xs).map D.int
  | [] => rfl
  | s :: ss => by rw [List.map_cons, srtD, srtD_int ss, insD_int]; rfl
theorem insI_perm (x : Int) : ∀ ys, (insI x ys).Perm (x :: ys)
  | [] => .refl _
  | y :: ys => by
    unfold insI
    split
    · exact .refl _
    · exact ((insI_perm x ys).cons y).trans (.swap x y ys)
theorem srtI_perm : ∀ ss, (srtI ss).Perm ss
  | [] => .refl _
  | s :: ss => (insI_perm s (srtI ss)).trans ((srtI_perm ss).cons s)
theorem insI_pw (x : Int) : ∀ {ys : List Int}, ys.Pairwise (· ≤ ·) → (insI x ys).Pairwise (· ≤ ·)
  | [], _ => List.pairwise_singleton _ _
  | y :: ys, h => by
    rw [List.pairwise_cons] at h
    unfold insI
    split
    · rename_i hx
      refine List.pairwise_cons.mpr ⟨fun z hz => ?_, List.pairwise_cons.mpr h⟩
      rcases List.mem_cons.mp hz with rfl | hz
      · exact hx
      · exact Int.le_trans hx (h.1 z hz)
    · rename_i hx
      refine List.pairwise_cons.mpr ⟨fun z hz => ?_, insI_pw x h.2⟩
      rcases List.mem_cons.mp ((insI_perm x ys).mem_iff.mp hz) with rfl | hz
      · omega
      · exact h.1 z hz
theorem srtI_pw : ∀ ss : List Int, (srtI ss).Pairwise (· ≤ ·)
  | [] => .nil
  | s :: ss => insI_pw s (srtI_pw ss)
theorem srtI_len (xs : List Int) : (srtI xs).length = xs.length := (srtI_perm xs).length_eq
theorem srtS_len (xs : List (Int × Int)) : (srtS xs).length = xs.length := (srtS_perm xs).length_eq
theorem allInt_map : ∀ xs : List Int, allInt (xs.map D.int) = true
  | [] => rfl
  | x :: xs => allInt_map xs
theorem gSorted_int {M : List MO} {d : D} {xs : List Int} (h : asR M d = some (xs.map D.int)) (hl : xs.length ≤ 1000000) : gSorted M [d] = some (isD (srtI xs)) := by
  rw [gSorted, h, Option.bind_some, srtOk, allInt_map, lim_of (by rw [List.length_map]; exact hl), nls_ints, srtD_int]
  rfl
theorem gSortedN_int {M : List MO} {d : D} {xs : List Int} (h : asR M d = some (xs.map D.int)) (hl : xs.length ≤ 1000000) : gSortedN M [d] = some ((srtI xs).map D.int) := by
  rw [gSortedN, h, Option.bind_some, srtOk, allInt_map, lim_of (by rw [List.length_map]; exact hl), nls_ints, srtD_int]
  rfl
theorem upFrom_map (lo : Int) : ∀ n, upFrom lo n = (List.range n).map fun i => D.int (lo + (i : Nat))
  | n => by
    apply List.ext_getElem?
    intro i
    cases h : (upFrom lo n)[i]? with
    | none =>
      have := List.getElem?_eq_none_iff.mp h
      rw [upFrom_length] at this
      rw [List.getElem?_eq_none (by simpa using this)]
    | some d =>
      have hl := (List.getElem?_eq_some_iff.mp h).1
      rw [upFrom_length] at hl
      rw [upFrom_get n lo i d h, List.getElem?_map, List.getElem?_range hl]
      rfl
/-! ### asked_net -/
structure NetOk (n : Int) (ss : List (Int × Int)) : Prop where
  n1 : 1 ≤ n
  n9 : n ≤ 9
  len : ss.length ≤ 12
  sd : ∀ s ∈ ss, -1 ≤ s.1 ∧ s.1 < s.2 ∧ s.2 < n
  srt : ss.Pairwise (fun a b => sdLt b a = false)
  cov : ∀ b : Int, 0 ≤ b → b < n → ∃ s ∈ ss, b = s.1 ∨ b = s.2
theorem smallI_of {i : Int} (h1 : -1000000 ≤ i) (h2 : i ≤ 1000000) : smallI i = true := by
  unfold smallI
  rw [decide_eq_true h1, decide_eq_true h2]
  rfl
theorem gI_int (f : Int → Int → Int) (M : List MO) (i j : Int) : gI f M (.int i) (.int j) = some (.int (f i j)) := rfl
theorem ssD_get {ss : List (Int × Int)} {k : Nat} {s : Int × Int} {M : List MO} (h : ss[k]? = some s) : gIx M (ssD ss) (.int (k : Int)) = some (sdD s) := gIx_nat (xs := ss.map sdD) rfl (by rw [List.getElem?_map, h]; rfl)
theorem asked_net_ok {n : Int} {ss : List (Int × Int)} (N : NetOk n ss) (M : List MO) : callV F_asked_net [netD n ss] M = some (.non, M) := by
  have el : gLen [] [netD n ss] = some (.int 2) := rfl
  have el2 : gLen [] [ssD ss] = some (.int (ss.length : Nat)) := by rw [gLen_lst, List.length_map]
  have et : tyD [] (netD n ss) = some .tup := rfl
  have et2 : tyD [] (ssD ss) = some .lst := rfl
  have ew : ∀ i M, callV F_is_whole [.int i] M = some (.bl true, M) := fun i M => is_whole_int i
  have len := N.len
  have hn1 := N.n1
  have hn9 := N.n9
  have h1 : compL (.nm 1) tYesF E_asked_net_1 [some (netD n ss), none, none, none] (ss.map sdD) [] = some (ss.map (fun s => .bl (decide (-1 ≤ s.1) && (decide (s.1 < s.2) && decide (s.2 < n)))), []) := by
    refine compL_all sdD _ ss fun s hs => ⟨_, rfl, ?_⟩
    simp only [E_asked_net_1, runFn, fSeq, fIf, fRet, fDrop, fAsg, fNew, fRetNew, fSkip, fRetN, fBrk, fCnt, tAnd, tOr, tNot, tE, eT, eBin, eUn, eC, eVar, eTup, eLst, eIf, eCall, eMc, eChain, eChain3, aNil, aCons, bindP, setAll, nLst, nBin, nCall, nSl, eSl, oNone, oSome, eFr, nComp, eIsi, tYesF, wipeE, iSeq, iEnumD, iRange1, iRange2, iRange3, fFor, Option.bind_some, Option.bind_none, Option.map_some, Option.map_none, List.map_cons, List.map_nil, List.length_cons, List.length_nil, List.replicate_succ, List.replicate_zero, List.cons_append, List.nil_append, List.append_nil, List.getElem?_cons_zero, List.getElem?_cons_succ, List.set_cons_zero, List.set_cons_succ, Nat.reduceAdd, Nat.reduceSub, if_true, if_false, Bool.true_and, Bool.and_true, Bool.false_and, Bool.and_false, Bool.not_true, Bool.not_false, Bool.or_true, Bool.true_or, Bool.or_false, Bool.false_or, Bool.false_eq_true, reduceCtorEq, Bool.not_not, call2, net0, nl_int, nl_sdD, is_side_sd]
  have h2 : compL (.nm 2) tYesF E_asked_net_2 [some (netD n ss), none, none, none] (upFrom 1 ((ss.length : Int) - 1).toNat) [] = some ((List.range ((ss.length : Int) - 1).toNat).map (fun i => .bl false), []) := by
    rw [upFrom_map]
    refine compL_all (fun i : Nat => D.int (1 + (i : Int))) _ _ fun i hi => ⟨_, rfl, ?_⟩
    have hi := List.mem_range.mp hi
    have ea : (1 + (i : Int)) - 1 = ((i : Nat) : Int) := by omega
    have eb : (1 + (i : Int)) = ((i + 1 : Nat) : Int) := by omega
    have ga := ssD_get (M := []) (List.getElem?_eq_getElem (l := ss) (i := i) (by omega))
    have gb := ssD_get (M := []) (List.getElem?_eq_getElem (l := ss) (i := i + 1) (by omega))
    simp only [E_asked_net_2, runFn, fSeq, fIf, fRet, fDrop, fAsg, fNew, fRetNew, fSkip, fRetN, fBrk, fCnt, tAnd, tOr, tNot, tE, eT, eBin, eUn, eC, eVar, eTup, eLst, eIf, eCall, eMc, eChain, eChain3, aNil, aCons, bindP, setAll, nLst, nBin, nCall, nSl, eSl, oNone, oSome, eFr, nComp, eIsi, tYesF, wipeE, iSeq, iEnumD, iRange1, iRange2, iRange3, fFor, Option.bind_some, Option.bind_none, Option.map_some, Option.map_none, List.map_cons, List.map_nil, List.length_cons, List.length_nil, List.replicate_succ, List.replicate_zero, List.cons_append, List.nil_append, List.append_nil, List.getElem?_cons_zero, List.getElem?_cons_succ, List.set_cons_zero, List.set_cons_succ, Nat.reduceAdd, Nat.reduceSub, if_true, if_false, Bool.true_and, Bool.and_true, Bool.false_and, Bool.and_false, Bool.not_true, Bool.not_false, Bool.or_true, Bool.true_or, Bool.or_false, Bool.false_or, Bool.false_eq_true, reduceCtorEq, Bool.not_not, net1, gI_int]
    rw [ea, eb]
    simp only [Option.bind_some, Option.bind_none, Option.map_some, Option.map_none, List.map_cons, List.map_nil, List.length_cons, List.length_nil, List.replicate_succ, List.replicate_zero, List.cons_append, List.nil_append, List.append_nil, List.getElem?_cons_zero, List.getElem?_cons_succ, List.set_cons_zero, List.set_cons_succ, Nat.reduceAdd, Nat.reduceSub, if_true, if_false, Bool.true_and, Bool.and_true, Bool.false_and, Bool.and_false, Bool.not_true, Bool.not_false, Bool.or_true, Bool.true_or, Bool.or_false, Bool.false_or, Bool.false_eq_true, reduceCtorEq, Bool.not_not, ga, gb, gGt_sd]
    rw [List.pairwise_iff_getElem.mp N.srt i (i + 1) (by omega) (by omega) (by omega)]
  have h3 : compL (.nm 3) tYesF E_asked_net_4 [some (netD n ss), none, none, none] (upFrom 0 n.toNat) [] = some ((List.range n.toNat).map (fun i => .bl true), []) := by
    rw [upFrom_map]
    refine compL_all (fun i : Nat => D.int (0 + (i : Int))) _ _ fun i hi => ⟨_, rfl, ?_⟩
    have hi := List.mem_range.mp hi
    have h4 : compL (.nm 1) tYesF E_asked_net_3 [some (netD n ss), none, none, some (.int (0 + (i : Int)))] (ss.map sdD) [] = some (ss.map (fun s => .bl (decide (0 + (i : Int) = s.1 ∨ 0 + (i : Int) = s.2))), []) := by
      refine compL_all sdD _ ss fun s hs => ⟨_, rfl, ?_⟩
      simp only [E_asked_net_3, runFn, fSeq, fIf, fRet, fDrop, fAsg, fNew, fRetNew, fSkip, fRetN, fBrk, fCnt, tAnd, tOr, tNot, tE, eT, eBin, eUn, eC, eVar, eTup, eLst, eIf, eCall, eMc, eChain, eChain3, aNil, aCons, bindP, setAll, nLst, nBin, nCall, nSl, eSl, oNone, oSome, eFr, nComp, eIsi, tYesF, wipeE, iSeq, iEnumD, iRange1, iRange2, iRange3, fFor, Option.bind_some, Option.bind_none, Option.map_some, Option.map_none, List.map_cons, List.map_nil, List.length_cons, List.length_nil, List.replicate_succ, List.replicate_zero, List.cons_append, List.nil_append, List.append_nil, List.getElem?_cons_zero, List.getElem?_cons_succ, List.set_cons_zero, List.set_cons_succ, Nat.reduceAdd, Nat.reduceSub, if_true, if_false, Bool.true_and, Bool.and_true, Bool.false_and, Bool.and_false, Bool.not_true, Bool.not_false, Bool.or_true, Bool.true_or, Bool.or_false, Bool.false_or, Bool.false_eq_true, reduceCtorEq, Bool.not_not, gIn_sd]
    simp only [E_asked_net_4, runFn, fSeq, fIf, fRet, fDrop, fAsg, fNew, fRetNew, fSkip, fRetN, fBrk, fCnt, tAnd, tOr, tNot, tE, eT, eBin, eUn, eC, eVar, eTup, eLst, eIf, eCall, eMc, eChain, eChain3, aNil, aCons, bindP, setAll, nLst, nBin, nCall, nSl, eSl, oNone, oSome, eFr, nComp, eIsi, tYesF, wipeE, iSeq, iEnumD, iRange1, iRange2, iRange3, fFor, Option.bind_some, Option.bind_none, Option.map_some, Option.map_none, List.map_cons, List.map_nil, List.length_cons, List.length_nil, List.replicate_succ, List.replicate_zero, List.cons_append, List.nil_append, List.append_nil, List.getElem?_cons_zero, List.getElem?_cons_succ, List.set_cons_zero, List.set_cons_succ, Nat.reduceAdd, Nat.reduceSub, if_true, if_false, Bool.true_and, Bool.and_true, Bool.false_and, Bool.and_false, Bool.not_true, Bool.not_false, Bool.or_true, Bool.true_or, Bool.or_false, Bool.false_or, Bool.false_eq_true, reduceCtorEq, Bool.not_not, net1, asF, h4, List.length_map, lim_of (show ss.length ≤ 1000000 by omega)]
    rw [gAny_map (fun s : Int × Int => decide (0 + (i : Int) = s.1 ∨ 0 + (i : Int) = s.2))]
    obtain ⟨s, hs, he⟩ := N.cov (0 + (i : Int)) (by omega) (by omega)
    rw [List.any_eq_true.mpr ⟨s, hs, decide_eq_true he⟩]
    rfl
  have a1 : gAll [] [.lst (ss.map fun s => .bl (decide (-1 ≤ s.1) && (decide (s.1 < s.2) && decide (s.2 < n))))] = some (.bl true) := by
    rw [gAll_map (fun s : Int × Int => decide (-1 ≤ s.1) && (decide (s.1 < s.2) && decide (s.2 < n)))]
    rw [List.all_eq_true.mpr fun s hs => ?_]
    have := N.sd s hs
    simp [this]
  have a2 : gAny [] [.lst ((List.range ((ss.length : Int) - 1).toNat).map fun i => .bl false)] = some (.bl false) := by
    rw [gAny_map (fun _ : Nat => false)]
    simp
  have a3 : gAll [] [.lst ((List.range n.toNat).map fun i => .bl true)] = some (.bl true) := by
    rw [gAll_map (fun _ : Nat => true)]
    simp
  have l1 : lim ((List.range ((ss.length : Int) - 1).toNat).map (fun i : Nat => D.int (1 + (i : Int)))).length = true := lim_of (by rw [List.length_map, List.length_range]; omega)
  unfold callV F_asked_net
  simp only [Fb_asked_net, runFn, fSeq, fIf, fRet, fDrop, fAsg, fNew, fRetNew, fSkip, fRetN, fBrk, fCnt, tAnd, tOr, tNot, tE, eT, eBin, eUn, eC, eVar, eTup, eLst, eIf, eCall, eMc, eChain, eChain3, aNil, aCons, bindP, setAll, nLst, nBin, nCall, nSl, eSl, oNone, oSome, eFr, nComp, eIsi, tYesF, wipeE, iSeq, iEnumD, iRange1, iRange2, iRange3, fFor, Option.bind_some, Option.bind_none, Option.map_some, Option.map_none, List.map_cons, List.map_nil, List.length_cons, List.length_nil, List.replicate_succ, List.replicate_zero, List.cons_append, List.nil_append, List.append_nil, List.getElem?_cons_zero, List.getElem?_cons_succ, List.set_cons_zero, List.set_cons_succ, Nat.reduceAdd, Nat.reduceSub, if_true, if_false, Bool.true_and, Bool.and_true, Bool.false_and, Bool.and_false, Bool.not_true, Bool.not_false, Bool.or_true, Bool.true_or, Bool.or_false, Bool.false_or, Bool.false_eq_true, reduceCtorEq, Bool.not_not, call1, net0, net1, el, el2, et, et2, nl_int, ew, gNe_int, gNeg, gLe_int, gGt_int, subTy, decide_true, asF, h1, a1, List.length_map, lim_of (show ss.length ≤ 1000000 by omega),
    smallI_of (show -1000000 ≤ (1 : Int) by decide) (by decide), smallI_of (show -1000000 ≤ (ss.length : Int) by omega) (by omega), smallI_of (show -1000000 ≤ n by omega) (by omega), upFrom_length, lim_of (show ((ss.length : Int) - 1).toNat ≤ 1000000 by omega), lim_of (show n.toNat ≤ 1000000 by omega),
    h2, h3, a2, a3, decide_eq_true hn1, decide_eq_true hn9, decide_eq_false (show ¬ ((12 : Int) < (ss.length : Nat)) by omega), rsv]
end BL

set_option Elab.async false
set_option linter.all false
set_option maxRecDepth 100000
set_option maxHeartbeats 2000000
/-! PN2: drawn sides, open boxes. -/
namespace BL
open PySem BX
structure DrOk (m : Nat) (dr : List Int) : Prop where
  rg : ∀ x ∈ dr, 0 ≤ x ∧ x < m
  pw : dr.Pairwise (· < ·)
theorem DrOk.len {m : Nat} {dr : List Int} (h : DrOk m dr) : dr.length ≤ m := by
  have key : ∀ (l : List Int) (lo : Int), (∀ x ∈ l, lo ≤ x ∧ x < m) → l.Pairwise (· < ·) → (l.length : Int) ≤ max 0 (m - lo) := by
    intro l
    induction l with
    | nil => intro lo _ _; simp; omega
    | cons y ys ih =>
      intro lo h1 h2
      rw [List.pairwise_cons] at h2
      have hy := h1 y List.mem_cons_self
      have := ih (y + 1) (fun x hx => ⟨by have := h2.1 x hx; omega, (h1 x (List.mem_cons_of_mem _ hx)).2⟩) h2.2
      rw [List.length_cons]
      omega
  have := key dr 0 h.rg h.pw
  omega
theorem isD_get {xs : List Int} {k : Nat} {x : Int} {M : List MO} (h : xs[k]? = some x) : gIx M (isD xs) (.int (k : Int)) = some (.int x) := gIx_nat (xs := xs.map D.int) rfl (by rw [List.getElem?_map, h]; rfl)
theorem is_rising_ok {m : Nat} {dr : List Int} (h : DrOk m dr) (hm : m ≤ 100000) (M : List MO) : callV F_is_rising [isD dr, .int (m : Int)] M = some (.bl true, M) := by
  have hl := h.len
  have ew : ∀ i M, callV F_is_whole [.int i] M = some (.bl true, M) := fun i M => is_whole_int i
  have h1 : compL (.nm 2) tYesF E_is_rising_1 [some (isD dr), some (.int (m : Int)), none, none] (dr.map D.int) [] = some (dr.map (fun s => .bl true), []) := by
    refine compL_all D.int _ dr fun s hs => ⟨_, rfl, ?_⟩
    have := h.rg s hs
    simp only [E_is_rising_1, runFn, fSeq, fIf, fRet, fDrop, fAsg, fNew, fRetNew, fSkip, fRetN, fBrk, fCnt, tAnd, tOr, tNot, tE, eT, eBin, eUn, eC, eVar, eTup, eLst, eIf, eCall, eMc, eChain, eChain3, aNil, aCons, bindP, setAll, nLst, nBin, nCall, nSl, eSl, oNone, oSome, eFr, nComp, eIsi, tYesF, wipeE, iSeq, iEnumD, iRange1, iRange2, iRange3, fFor, Option.bind_some, Option.bind_none, Option.map_some, Option.map_none, List.map_cons, List.map_nil, List.length_cons, List.length_nil, List.replicate_succ, List.replicate_zero, List.cons_append, List.nil_append, List.append_nil, List.getElem?_cons_zero, List.getElem?_cons_succ, List.set_cons_zero, List.set_cons_succ, Nat.reduceAdd, Nat.reduceSub, if_true, if_false, Bool.true_and, Bool.and_true, Bool.false_and, Bool.and_false, Bool.not_true, Bool.not_false, Bool.or_true, Bool.true_or, Bool.or_false, Bool.false_or, Bool.false_eq_true, reduceCtorEq, Bool.not_not, call1, nl_int, ew, gLe_int, gLt_int, decide_eq_true this.1, decide_eq_true this.2]
  have h2 : compL (.nm 3) tYesF E_is_rising_2 [some (isD dr), some (.int (m : Int)), none, none] (upFrom 1 ((dr.length : Int) - 1).toNat) [] = some ((List.range ((dr.length : Int) - 1).toNat).map (fun i => .bl true), []) := by
    rw [upFrom_map]
    refine compL_all (fun i : Nat => D.int (1 + (i : Int))) _ _ fun i hi => ⟨_, rfl, ?_⟩
    have hi := List.mem_range.mp hi
    have ea : (1 + (i : Int)) - 1 = ((i : Nat) : Int) := by omega
    have eb : (1 + (i : Int)) = ((i + 1 : Nat) : Int) := by omega
    have ga := isD_get (M := []) (List.getElem?_eq_getElem (l := dr) (i := i) (by omega))
    have gb := isD_get (M := []) (List.getElem?_eq_getElem (l := dr) (i := i + 1) (by omega))
    simp only [E_is_rising_2, runFn, fSeq, fIf, fRet, fDrop, fAsg, fNew, fRetNew, fSkip, fRetN, fBrk, fCnt, tAnd, tOr, tNot, tE, eT, eBin, eUn, eC, eVar, eTup, eLst, eIf, eCall, eMc, eChain, eChain3, aNil, aCons, bindP, setAll, nLst, nBin, nCall, nSl, eSl, oNone, oSome, eFr, nComp, eIsi, tYesF, wipeE, iSeq, iEnumD, iRange1, iRange2, iRange3, fFor, Option.bind_some, Option.bind_none, Option.map_some, Option.map_none, List.map_cons, List.map_nil, List.length_cons, List.length_nil, List.replicate_succ, List.replicate_zero, List.cons_append, List.nil_append, List.append_nil, List.getElem?_cons_zero, List.getElem?_cons_succ, List.set_cons_zero, List.set_cons_succ, Nat.reduceAdd, Nat.reduceSub, if_true, if_false, Bool.true_and, Bool.and_true, Bool.false_and, Bool.and_false, Bool.not_true, Bool.not_false, Bool.or_true, Bool.true_or, Bool.or_false, Bool.false_or, Bool.false_eq_true, reduceCtorEq, Bool.not_not, gI_int]
    rw [ea, eb]
    simp only [Option.bind_some, Option.bind_none, Option.map_some, Option.map_none, List.map_cons, List.map_nil, List.length_cons, List.length_nil, List.replicate_succ, List.replicate_zero, List.cons_append, List.nil_append, List.append_nil, List.getElem?_cons_zero, List.getElem?_cons_succ, List.set_cons_zero, List.set_cons_succ, Nat.reduceAdd, Nat.reduceSub, if_true, if_false, Bool.true_and, Bool.and_true, Bool.false_and, Bool.and_false, Bool.not_true, Bool.not_false, Bool.or_true, Bool.true_or, Bool.or_false, Bool.false_or, Bool.false_eq_true, reduceCtorEq, Bool.not_not, ga, gb, gLt_int]
    rw [decide_eq_true (List.pairwise_iff_getElem.mp h.pw i (i + 1) (by omega) (by omega) (by omega))]
  have a1 : gAll [] [.lst (dr.map fun _ => .bl true)] = some (.bl true) := by
    rw [gAll_map (fun _ : Int => true)]
    simp
  have a3 : gAll [] [.lst ((List.range ((dr.length : Int) - 1).toNat).map fun i => .bl true)] = some (.bl true) := by
    rw [gAll_map (fun _ : Nat => true)]
    simp
  have el2 : gLen [] [isD dr] = some (.int (dr.length : Nat)) := by rw [gLen_lst, List.length_map]
  have et2 : tyD [] (isD dr) = some .lst := rfl
  unfold callV F_is_rising
  simp only [Fb_is_rising, runFn, fSeq, fIf, fRet, fDrop, fAsg, fNew, fRetNew, fSkip, fRetN, fBrk, fCnt, tAnd, tOr, tNot, tE, eT, eBin, eUn, eC, eVar, eTup, eLst, eIf, eCall, eMc, eChain, eChain3, aNil, aCons, bindP, setAll, nLst, nBin, nCall, nSl, eSl, oNone, oSome, eFr, nComp, eIsi, tYesF, wipeE, iSeq, iEnumD, iRange1, iRange2, iRange3, fFor, Option.bind_some, Option.bind_none, Option.map_some, Option.map_none, List.map_cons, List.map_nil, List.length_cons, List.length_nil, List.replicate_succ, List.replicate_zero, List.cons_append, List.nil_append, List.append_nil, List.getElem?_cons_zero, List.getElem?_cons_succ, List.set_cons_zero, List.set_cons_succ, Nat.reduceAdd, Nat.reduceSub, if_true, if_false, Bool.true_and, Bool.and_true, Bool.false_and, Bool.and_false, Bool.not_true, Bool.not_false, Bool.or_true, Bool.true_or, Bool.or_false, Bool.false_or, Bool.false_eq_true, reduceCtorEq, Bool.not_not, el2, et2, subTy, decide_true, asF, h1, a1, List.length_map, lim_of (show dr.length ≤ 1000000 by omega),
    smallI_of (show -1000000 ≤ (1 : Int) by decide) (by decide), smallI_of (show -1000000 ≤ (dr.length : Int) by omega) (by omega), upFrom_length, lim_of (show ((dr.length : Int) - 1).toNat ≤ 1000000 by omega), h2, a3, rsv]
theorem asked_drawn_ok {n : Int} {ss : List (Int × Int)} {dr : List Int} (N : NetOk n ss) (h : DrOk ss.length dr) (M : List MO) : callV F_asked_drawn [netD n ss, isD dr] M = some (.non, M) := by
  have el2 : ∀ M, gLen M [ssD ss] = some (.int (ss.length : Nat)) := fun M => by rw [gLen_lst, List.length_map]
  have len := N.len
  unfold callV F_asked_drawn
  simp only [Fb_asked_drawn, runFn, fSeq, fIf, fRet, fDrop, fAsg, fNew, fRetNew, fSkip, fRetN, fBrk, fCnt, tAnd, tOr, tNot, tE, eT, eBin, eUn, eC, eVar, eTup, eLst, eIf, eCall, eMc, eChain, eChain3, aNil, aCons, bindP, setAll, nLst, nBin, nCall, nSl, eSl, oNone, oSome, eFr, nComp, eIsi, tYesF, wipeE, iSeq, iEnumD, iRange1, iRange2, iRange3, fFor, Option.bind_some, Option.bind_none, Option.map_some, Option.map_none, List.map_cons, List.map_nil, List.length_cons, List.length_nil, List.replicate_succ, List.replicate_zero, List.cons_append, List.nil_append, List.append_nil, List.getElem?_cons_zero, List.getElem?_cons_succ, List.set_cons_zero, List.set_cons_succ, Nat.reduceAdd, Nat.reduceSub, if_true, if_false, Bool.true_and, Bool.and_true, Bool.false_and, Bool.and_false, Bool.not_true, Bool.not_false, Bool.or_true, Bool.true_or, Bool.or_false, Bool.false_or, Bool.false_eq_true, reduceCtorEq, Bool.not_not, call1, call2, nl_netD, nl_isD, nl_int, asked_net_ok N, net1, el2, is_rising_ok h (by omega), rsv]
/-! ### open boxes -/
/-- how many sides of box b aren't drawn, from the j-th on -/
def cnt (dr : List Int) (b : Int) : Nat → List (Int × Int) → Int
  | _, [] => 0
  | j, s :: ss => (if (b = s.1 ∨ b = s.2) ∧ ((j : Nat) : Int) ∉ dr then 1 else 0) + cnt dr b (j + 1) ss
def openM (n : Int) (ss : List (Int × Int)) (dr : List Int) : List Int := (List.range n.toNat).map fun b : Nat => cnt dr (b : Int) 0 ss
theorem openM_len (n : Int) (ss : List (Int × Int)) (dr : List Int) : (openM n ss dr).length = n.toNat := by simp [openM]
/-- a list of k numbers by a function -/
def fl (k : Nat) (f : Nat → Int) : List D := (List.range k).map fun i => D.int (f i)
theorem fl_len (k : Nat) (f : Nat → Int) : (fl k f).length = k := by simp [fl]
theorem fl_get {k : Nat} {f : Nat → Int} {i : Nat} (h : i < k) : (fl k f)[i]? = some (.int (f i)) := by simp [fl, h]
theorem fl_set {k : Nat} {f : Nat → Int} {i : Nat} (h : i < k) (v : Int) : (fl k f).set i (.int v) = fl k (fun j => if j = i then v else f j) := by
  apply List.ext_getElem?
  intro j
  rw [List.getElem?_set, fl_len]
  by_cases hj : i = j
  · subst hj
    rw [if_pos rfl, if_pos h, fl_get h]
    simp
  · rw [if_neg hj]
    by_cases hk : j < k
    · rw [fl_get hk, fl_get hk, if_neg (fun e => hj e.symm)]
    · rw [List.getElem?_eq_none (by rw [fl_len]; omega), List.getElem?_eq_none (by rw [fl_len]; omega)]
theorem fl_congr {k : Nat} {f g : Nat → Int} (h : ∀ i, i < k → f i = g i) : fl k f = fl k g := by
  unfold fl
  exact List.map_congr_left fun i hi => by rw [h i (List.mem_range.mp hi)]
theorem fl_openM (n : Int) (ss : List (Int × Int)) (dr : List Int) : fl n.toNat (fun b => cnt dr (b : Int) 0 ss) = (openM n ss dr).map D.int := by
  unfold fl openM
  rw [List.map_map]
  rfl
section
variable {M0 : List MO} {dr : List Int} {drD net : D} {k : Nat}
theorem get_last {M0 : List MO} {o : MO} : (M0 ++ [o])[M0.length]? = some o := by simp
theorem set_last {M0 : List MO} {o o' : MO} : (M0 ++ [o]).set M0.length o' = M0 ++ [o'] := by simp
/-- one box of one side -/
theorem open_step1 {e3 e4 : Option D} {at_ b : Int} {f : Nat → Int} {j : Nat} (hdr : ∀ o, asS (M0 ++ [o]) drD = some (dr.map D.int)) (hb : b < k) (hb0 : -1 ≤ b) (hj : b = (j : Nat) ∨ b = -1) :
    L_open_of_1 [some net, some drD, some (.loc M0.length), some (.int at_), e4, some (.int b)] (M0 ++ [.lst (fl k f)]) =
      some (.nx [some net, some drD, some (.loc M0.length), some (.int at_), e4, some (.int b)] (M0 ++ [.lst (fl k fun i => f i + if ((i : Nat) : Int) = b ∧ at_ ∉ dr then 1 else 0)])) := by
  by_cases h0 : 0 ≤ b
  · have e : b = (b.toNat : Int) := by omega
    have hk : b.toNat < k := by omega
    by_cases hd : at_ ∈ dr
    · simp only [L_open_of_1, runFn, fSeq, fIf, fRet, fDrop, fAsg, fNew, fRetNew, fSkip, fRetN, fBrk, fCnt, tAnd, tOr, tNot, tE, eT, eBin, eUn, eC, eVar, eTup, eLst, eIf, eCall, eMc, eChain, eChain3, aNil, aCons, bindP, setAll, nLst, nBin, nCall, nSl, eSl, oNone, oSome, eFr, nComp, eIsi, tYesF, wipeE, iSeq, iEnumD, iRange1, iRange2, iRange3, fFor, Option.bind_some, Option.bind_none, Option.map_some, Option.map_none, List.map_cons, List.map_nil, List.length_cons, List.length_nil, List.replicate_succ, List.replicate_zero, List.cons_append, List.nil_append, List.append_nil, List.getElem?_cons_zero, List.getElem?_cons_succ, List.set_cons_zero, List.set_cons_succ, Nat.reduceAdd, Nat.reduceSub, if_true, if_false, Bool.true_and, Bool.and_true, Bool.false_and, Bool.and_false, Bool.not_true, Bool.not_false, Bool.or_true, Bool.true_or, Bool.or_false, Bool.false_or, Bool.false_eq_true, reduceCtorEq, Bool.not_not, gGe_int, decide_eq_true h0, gNin_ints (hdr _), decide_eq_true hd]
      have e2 : fl k (fun i => f i + if ((i : Nat) : Int) = b ∧ at_ ∉ dr then 1 else 0) = fl k f := fl_congr fun i hi => by simp [hd]
      rw [e2]
    · have g1 : gIx (M0 ++ [.lst (fl k f)]) (.loc M0.length) (.int b) = some (.int (f b.toNat)) := by
        have := gIx_nat (M := M0 ++ [.lst (fl k f)]) (d := .loc M0.length) (xs := fl k f) (k := b.toNat) (x := .int (f b.toNat)) (by simp [asS, asL]) (fl_get hk)
        rw [show ((b.toNat : Nat) : Int) = b by omega] at this
        exact this
      have g2 : locL (M0 ++ [.lst (fl k f)]) (.loc M0.length) = some (M0.length, fl k f) := by
        simp [locL]
      simp only [L_open_of_1, runFn, fSeq, fIf, fRet, fDrop, fAsg, fNew, fRetNew, fSkip, fRetN, fBrk, fCnt, tAnd, tOr, tNot, tE, eT, eBin, eUn, eC, eVar, eTup, eLst, eIf, eCall, eMc, eChain, eChain3, aNil, aCons, bindP, setAll, nLst, nBin, nCall, nSl, eSl, oNone, oSome, eFr, nComp, eIsi, tYesF, wipeE, iSeq, iEnumD, iRange1, iRange2, iRange3, fFor, Option.bind_some, Option.bind_none, Option.map_some, Option.map_none, List.map_cons, List.map_nil, List.length_cons, List.length_nil, List.replicate_succ, List.replicate_zero, List.cons_append, List.nil_append, List.append_nil, List.getElem?_cons_zero, List.getElem?_cons_succ, List.set_cons_zero, List.set_cons_succ, Nat.reduceAdd, Nat.reduceSub, if_true, if_false, Bool.true_and, Bool.and_true, Bool.false_and, Bool.and_false, Bool.not_true, Bool.not_false, Bool.or_true, Bool.true_or, Bool.or_false, Bool.false_or, Bool.false_eq_true, reduceCtorEq, Bool.not_not, gGe_int, decide_eq_true h0, gNin_ints (hdr _), decide_eq_false hd, fSetIx, g1, gAdd_int, g2, fl_len, ixN_nat h0 hb, set_last]
      rw [fl_set hk, fl_congr (g := fun i => f i + if ((i : Nat) : Int) = b ∧ at_ ∉ dr then 1 else 0) fun i hi => ?_]
      by_cases hi2 : i = b.toNat
      · subst hi2
        rw [if_pos rfl, if_pos ⟨by omega, hd⟩]
      · rw [if_neg hi2, if_neg (fun h => hi2 (by omega)), Int.add_zero]
  · simp only [L_open_of_1, runFn, fSeq, fIf, fRet, fDrop, fAsg, fNew, fRetNew, fSkip, fRetN, fBrk, fCnt, tAnd, tOr, tNot, tE, eT, eBin, eUn, eC, eVar, eTup, eLst, eIf, eCall, eMc, eChain, eChain3, aNil, aCons, bindP, setAll, nLst, nBin, nCall, nSl, eSl, oNone, oSome, eFr, nComp, eIsi, tYesF, wipeE, iSeq, iEnumD, iRange1, iRange2, iRange3, fFor, Option.bind_some, Option.bind_none, Option.map_some, Option.map_none, List.map_cons, List.map_nil, List.length_cons, List.length_nil, List.replicate_succ, List.replicate_zero, List.cons_append, List.nil_append, List.append_nil, List.getElem?_cons_zero, List.getElem?_cons_succ, List.set_cons_zero, List.set_cons_succ, Nat.reduceAdd, Nat.reduceSub, if_true, if_false, Bool.true_and, Bool.and_true, Bool.false_and, Bool.and_false, Bool.not_true, Bool.not_false, Bool.or_true, Bool.true_or, Bool.or_false, Bool.false_or, Bool.false_eq_true, reduceCtorEq, Bool.not_not, gGe_int, decide_eq_false h0]
    have e2 : fl k (fun i => f i + if ((i : Nat) : Int) = b ∧ at_ ∉ dr then 1 else 0) = fl k f := fl_congr fun i hi => by
      rw [if_neg (fun h => h0 (by omega)), Int.add_zero]
    rw [e2]
theorem open_step2 {e5 : Option D} {at_ : Int} {s : Int × Int} {f : Nat → Int} (hdr : ∀ o, asS (M0 ++ [o]) drD = some (dr.map D.int)) (hs : -1 ≤ s.1 ∧ s.1 < s.2 ∧ s.2 < k) :
    L_open_of_2 [some net, some drD, some (.loc M0.length), some (.int at_), some (sdD s), e5] (M0 ++ [.lst (fl k f)]) =
      some (.nx [some net, some drD, some (.loc M0.length), some (.int at_), some (sdD s), some (.int s.2)] (M0 ++ [.lst (fl k fun i => f i + if (((i : Nat) : Int) = s.1 ∨ ((i : Nat) : Int) = s.2) ∧ at_ ∉ dr then 1 else 0)])) := by
  have ea : asF (sdD s) = some [.int s.1, .int s.2] := rfl
  have st := fun (b : Int) (f : Nat → Int) (h1 : b < k) (h2 : -1 ≤ b) => open_step1 (M0 := M0) (net := net) (k := k) (e3 := none) (e4 := some (sdD s)) (at_ := at_) (b := b) (f := f) (j := b.toNat) hdr h1 h2 (by omega)
  simp only [L_open_of_2, fFor, iSeq, eVar, Option.bind_some, Option.bind_none, Option.map_some, Option.map_none, List.map_cons, List.map_nil, List.length_cons, List.length_nil, List.replicate_succ, List.replicate_zero, List.cons_append, List.nil_append, List.append_nil, List.getElem?_cons_zero, List.getElem?_cons_succ, List.set_cons_zero, List.set_cons_succ, Nat.reduceAdd, Nat.reduceSub, if_true, if_false, Bool.true_and, Bool.and_true, Bool.false_and, Bool.and_false, Bool.not_true, Bool.not_false, Bool.or_true, Bool.true_or, Bool.or_false, Bool.false_or, Bool.false_eq_true, reduceCtorEq, Bool.not_not, ea, forL, bindP, st s.1 f (by omega) hs.1]
  rw [st s.2 _ hs.2.2 (by omega)]
  simp only [Option.bind_some, Option.bind_none, Option.map_some, Option.map_none, List.map_cons, List.map_nil, List.length_cons, List.length_nil, List.replicate_succ, List.replicate_zero, List.cons_append, List.nil_append, List.append_nil, List.getElem?_cons_zero, List.getElem?_cons_succ, List.set_cons_zero, List.set_cons_succ, Nat.reduceAdd, Nat.reduceSub, if_true, if_false, Bool.true_and, Bool.and_true, Bool.false_and, Bool.and_false, Bool.not_true, Bool.not_false, Bool.or_true, Bool.true_or, Bool.or_false, Bool.false_or, Bool.false_eq_true, reduceCtorEq, Bool.not_not]
  rw [fl_congr (g := fun i => f i + if (((i : Nat) : Int) = s.1 ∨ ((i : Nat) : Int) = s.2) ∧ at_ ∉ dr then 1 else 0) fun i hi => ?_]
  by_cases hd : at_ ∈ dr
  · simp [hd]
  · by_cases h1 : ((i : Nat) : Int) = s.1
    · have h2 : ¬ ((i : Nat) : Int) = s.2 := by omega
      simp [hd, h1, h2]
      omega
    · by_cases h2 : ((i : Nat) : Int) = s.2
      · have h3 : ¬ s.2 = s.1 := by omega
        simp [hd, h2, h3]
      · simp [hd, h1, h2]
theorem open_loop (hdr : ∀ o, asS (M0 ++ [o]) drD = some (dr.map D.int)) : ∀ (ss : List (Int × Int)) (j : Nat) (f : Nat → Int) (e3 e4 e5 : Option D), (∀ s ∈ ss, -1 ≤ s.1 ∧ s.1 < s.2 ∧ s.2 < k) →
    ∃ e3' e4' e5', forL (.tp [3, 4]) L_open_of_2 (enumF j (ss.map sdD)) [some net, some drD, some (.loc M0.length), e3, e4, e5] (M0 ++ [.lst (fl k f)]) =
      some (.nx [some net, some drD, some (.loc M0.length), e3', e4', e5'] (M0 ++ [.lst (fl k fun i => f i + cnt dr (i : Int) j ss)]))
  | [], j, f, e3, e4, e5, _ => ⟨e3, e4, e5, by
    rw [List.map_nil, enumF, forL]
    have e2 : fl k (fun i => f i + cnt dr (i : Int) j []) = fl k f := fl_congr fun i hi => by simp [cnt]
    rw [e2]⟩
  | s :: ss, j, f, e3, e4, e5, h => by
    obtain ⟨a, b, c, ih⟩ := open_loop hdr ss (j + 1) (fun i => f i + if (((i : Nat) : Int) = s.1 ∨ ((i : Nat) : Int) = s.2) ∧ ((j : Nat) : Int) ∉ dr then 1 else 0) (some (.int (j : Nat))) (some (sdD s)) (some (.int s.2)) fun t ht => h t (List.mem_cons_of_mem _ ht)
    refine ⟨a, b, c, ?_⟩
    rw [List.map_cons, enumF, forL]
    simp only [bindP, setAll, Option.bind_some, Option.bind_none, Option.map_some, Option.map_none, List.map_cons, List.map_nil, List.length_cons, List.length_nil, List.replicate_succ, List.replicate_zero, List.cons_append, List.nil_append, List.append_nil, List.getElem?_cons_zero, List.getElem?_cons_succ, List.set_cons_zero, List.set_cons_succ, Nat.reduceAdd, Nat.reduceSub, if_true, if_false, Bool.true_and, Bool.and_true, Bool.false_and, Bool.and_false, Bool.not_true, Bool.not_false, Bool.or_true, Bool.true_or, Bool.or_false, Bool.false_or, Bool.false_eq_true, reduceCtorEq, Bool.not_not]
    rw [open_step2 hdr (h s List.mem_cons_self)]
    simp only [Option.bind_some, Option.bind_none, Option.map_some, Option.map_none, List.map_cons, List.map_nil, List.length_cons, List.length_nil, List.replicate_succ, List.replicate_zero, List.cons_append, List.nil_append, List.append_nil, List.getElem?_cons_zero, List.getElem?_cons_succ, List.set_cons_zero, List.set_cons_succ, Nat.reduceAdd, Nat.reduceSub, if_true, if_false, Bool.true_and, Bool.and_true, Bool.false_and, Bool.and_false, Bool.not_true, Bool.not_false, Bool.or_true, Bool.true_or, Bool.or_false, Bool.false_or, Bool.false_eq_true, reduceCtorEq, Bool.not_not]
    rw [ih]
    rw [fl_congr (g := fun i => f i + cnt dr (i : Int) j (s :: ss)) fun i hi => ?_]
    simp only [cnt]
    omega
theorem open_of_at {n : Int} {ss : List (Int × Int)} (hdr : ∀ o, asS (M0 ++ [o]) drD = some (dr.map D.int)) (N : NetOk n ss) : F_open_of [netD n ss, drD] M0 = some (.rt (.loc M0.length) (M0 ++ [.lst ((openM n ss dr).map D.int)])) := by
  have hn1 := N.n1
  have hn9 := N.n9
  have hz : (List.replicate n.toNat [D.int 0]).flatten = fl n.toNat (fun _ => 0) := by
    rw [show fl n.toNat (fun _ => 0) = List.replicate n.toNat (D.int 0) from by simp [fl, List.map_const']]
    simp
  have g1 : gRepN M0 (.lst [.int 0]) (.int n) = some (fl n.toNat (fun _ => 0)) := by
    simp only [gRepN, asL, Option.bind_some, List.length_cons, List.length_nil, Nat.zero_add, Nat.one_mul]
    rw [decide_eq_true (show -(2 ^ 63) ≤ n by omega), decide_eq_true (show n < 2 ^ 63 by omega), lim_of (show n.toNat ≤ 1000000 by omega), hz]
    rfl
  have ea : asFL (ssD ss) = some (ss.map sdD) := rfl
  obtain ⟨a, b, c, h⟩ := open_loop (net := netD n ss) (k := n.toNat) hdr ss 0 (fun _ => 0) none none none fun s hs => ⟨(N.sd s hs).1, (N.sd s hs).2.1, by have := (N.sd s hs).2.2; omega⟩
  have l1 : lim 1 = true := rfl
  simp only [F_open_of, Fb_open_of, runFn, fSeq, fIf, fRet, fDrop, fAsg, fNew, fRetNew, fSkip, fRetN, fBrk, fCnt, tAnd, tOr, tNot, tE, eT, eBin, eUn, eC, eVar, eTup, eLst, eIf, eCall, eMc, eChain, eChain3, aNil, aCons, bindP, setAll, nLst, nBin, nCall, nSl, eSl, oNone, oSome, eFr, nComp, eIsi, tYesF, wipeE, iSeq, iEnumD, iRange1, iRange2, iRange3, fFor, Option.bind_some, Option.bind_none, Option.map_some, Option.map_none, List.map_cons, List.map_nil, List.length_cons, List.length_nil, List.replicate_succ, List.replicate_zero, List.cons_append, List.nil_append, List.append_nil, List.getElem?_cons_zero, List.getElem?_cons_succ, List.set_cons_zero, List.set_cons_succ, Nat.reduceAdd, Nat.reduceSub, if_true, if_false, Bool.true_and, Bool.and_true, Bool.false_and, Bool.and_false, Bool.not_true, Bool.not_false, Bool.or_true, Bool.true_or, Bool.or_false, Bool.false_or, Bool.false_eq_true, reduceCtorEq, Bool.not_not, net0, net1, l1, g1, ea, h]
  rw [fl_congr (g := fun i => cnt dr (i : Int) 0 ss) fun i hi => by simp, fl_openM]
end
theorem open_of_ok {n : Int} {ss : List (Int × Int)} {dr : List Int} (N : NetOk n ss) : F_open_of [netD n ss, isD dr] [] = some (.rt (.loc 0) [.lst ((openM n ss dr).map D.int)]) := open_of_at (M0 := []) (fun _ => rfl) N
end BL

set_option Elab.async false
set_option linter.all false
set_option maxRecDepth 100000
set_option maxHeartbeats 2000000
/-! PN3: closed boxes, free sides, a side drawn. -/
namespace BL
open PySem BX
theorem enumF_map {α : Type} (dd : α → D) : ∀ (as : List α) (j : Nat), enumF j (as.map dd) = (as.zipIdx j).map fun p => .tup [.int (p.2 : Nat), dd p.1]
  | [], j => rfl
  | a :: as, j => by rw [List.map_cons, enumF, List.zipIdx_cons, List.map_cons, enumF_map dd as]
theorem callV_loc {F : Fn} {ds : List D} {xs : List D} {M : List MO} {k : Nat} {M' : List MO} (h : F ds [] = some (.rt (.loc k) M')) (h2 : M'[k]? = some (.lst xs)) (hn : nls xs = true) : callV F ds M = some (.lst xs, M) := by
  unfold callV
  rw [h, Option.bind_some]
  simp only [rsv, lkF, Nat.not_lt_zero, if_false, h2, rsvs_nl _ hn, Option.map_some]
theorem callN_loc {F : Fn} {ds : List D} {xs : List D} {M : List MO} {k : Nat} {M' : List MO} (h : F ds [] = some (.rt (.loc k) M')) (h2 : M'[k]? = some (.lst xs)) (hn : nls xs = true) : callN F ds M = some (xs, M) := by
  unfold callN
  rw [h, Option.bind_some]
  simp only [h2, hn, if_true]
def closedM (n : Int) (ss : List (Int × Int)) (dr : List Int) : List Int := (((openM n ss dr).zipIdx 0).filter fun p => decide (p.1 = 0)).map fun p => ((p.2 : Nat) : Int)
def freeM (m : Nat) (dr : List Int) : List Int := ((List.range m).filter fun i : Nat => decide ((i : Int) ∉ dr)).map fun i => ((i : Nat) : Int)
section
variable {n : Int} {ss : List (Int × Int)} {dr : List Int}
theorem open_of_v (N : NetOk n ss) (M : List MO) : callV F_open_of [netD n ss, isD dr] M = some (isD (openM n ss dr), M) := callV_loc (open_of_ok N) rfl (nls_ints _)
theorem open_of_n (N : NetOk n ss) (M : List MO) : callN F_open_of [netD n ss, isD dr] M = some ((openM n ss dr).map D.int, M) := callN_loc (open_of_ok N) rfl (nls_ints _)
theorem ncall2 {F : Fn} {a b : FE} {env : En} {M : List MO} {r s : D × List MO} (h1 : a env M = some r) (h2 : b env r.2 = some s) (hn : (nl r.1 && nl s.1) = true) : nCallF F [false, false] (aCons a (aCons b aNil)) env M = callN F [r.1, s.1] s.2 :=
  nCallF_data (by simp [aCons, aNil, h1, h2]) (by simpa [nls] using hn) rfl
theorem opened_at (N : NetOk n ss) (h : DrOk ss.length dr) : F_opened [netD n ss, isD dr] [] = some (.rt (.loc 0) [.lst ((openM n ss dr).map D.int)]) := by
  have hc := ncall2 (F := F_open_of) (a := eVar 0) (b := eVar 1) (env := [some (netD n ss), some (isD dr)]) (M := []) (r := (netD n ss, [])) (s := (isD dr, [])) rfl rfl (by rw [nl_netD, nl_isD]; rfl)
  rw [open_of_n N] at hc
  simp only [F_opened, Fb_opened, runFn, fSeq, fIf, fRet, fDrop, fAsg, fNew, fRetNew, fSkip, fRetN, fBrk, fCnt, tAnd, tOr, tNot, tE, eT, eBin, eUn, eC, eVar, eTup, eLst, eIf, eCall, eMc, eChain, eChain3, aNil, aCons, bindP, setAll, nLst, nBin, nCall, nSl, eSl, oNone, oSome, eFr, nComp, eIsi, tYesF, wipeE, iSeq, iEnumD, iRange1, iRange2, iRange3, fFor, Option.bind_some, Option.bind_none, Option.map_some, Option.map_none, List.map_cons, List.map_nil, List.length_cons, List.length_nil, List.replicate_succ, List.replicate_zero, List.cons_append, List.nil_append, List.append_nil, List.getElem?_cons_zero, List.getElem?_cons_succ, List.set_cons_zero, List.set_cons_succ, Nat.reduceAdd, Nat.reduceSub, if_true, if_false, Bool.true_and, Bool.and_true, Bool.false_and, Bool.and_false, Bool.not_true, Bool.not_false, Bool.or_true, Bool.true_or, Bool.or_false, Bool.false_or, Bool.false_eq_true, reduceCtorEq, Bool.not_not, call2, nl_netD, nl_isD, asked_drawn_ok N h]
  simp only [eVar] at hc
  rw [hc]
  rfl
theorem opened_n (N : NetOk n ss) (h : DrOk ss.length dr) (M : List MO) : callN F_opened [netD n ss, isD dr] M = some ((openM n ss dr).map D.int, M) := callN_loc (opened_at N h) rfl (nls_ints _)
theorem comp_closed {pt : Pat} {ft : FT} {fe : FE} {env : En} {M : List MO} (xs : List Int) (h : ∀ (a : Int) (i : Nat), ∃ e1, bindP pt (.tup [.int (i : Nat), .int a]) env = some e1 ∧ ft e1 M = some (decide (a = 0), M) ∧ (a = 0 → fe e1 M = some (.int (i : Nat), M))) :
    compL pt ft fe env (enumF 0 (xs.map D.int)) M = some ((((xs.zipIdx 0).filter fun p => decide (p.1 = 0)).map fun p => ((p.2 : Nat) : Int)).map D.int, M) := by
  rw [enumF_map, compL_map (fun p : Int × Nat => D.tup [.int (p.2 : Nat), .int p.1]) (fun p => decide (p.1 = 0)) (fun p => D.int (p.2 : Nat)) _ fun p _ => ?_, List.map_map]
  · rfl
  · obtain ⟨e1, h1, h2, h3⟩ := h p.1 p.2
    exact ⟨e1, h1, h2, fun q => h3 (of_decide_eq_true q)⟩
theorem openM_le (N : NetOk n ss) : (openM n ss dr).length ≤ 9 := by
  rw [openM_len]
  have := N.n9
  omega
theorem closed_at (N : NetOk n ss) (h : DrOk ss.length dr) : F_closed [netD n ss, isD dr] [] = some (.rt (.loc 0) [.lst ((closedM n ss dr).map D.int)]) := by
  have hf : asFL (isD (openM n ss dr)) = some ((openM n ss dr).map D.int) := rfl
  have hl : lim (enumF 0 ((openM n ss dr).map D.int)).length = true := lim_of (by rw [enumF_length, List.length_map]; have := openM_le (dr := dr) N; omega)
  have hc := comp_closed (pt := .tp [2, 3]) (ft := T_closed_1) (fe := E_closed_1) (env := [some (netD n ss), some (isD dr), none, none]) (M := []) (openM n ss dr) fun a i => ⟨_, rfl, by
    simp only [T_closed_1, runFn, fSeq, fIf, fRet, fDrop, fAsg, fNew, fRetNew, fSkip, fRetN, fBrk, fCnt, tAnd, tOr, tNot, tE, eT, eBin, eUn, eC, eVar, eTup, eLst, eIf, eCall, eMc, eChain, eChain3, aNil, aCons, bindP, setAll, nLst, nBin, nCall, nSl, eSl, oNone, oSome, eFr, nComp, eIsi, tYesF, wipeE, iSeq, iEnumD, iRange1, iRange2, iRange3, fFor, Option.bind_some, Option.bind_none, Option.map_some, Option.map_none, List.map_cons, List.map_nil, List.length_cons, List.length_nil, List.replicate_succ, List.replicate_zero, List.cons_append, List.nil_append, List.append_nil, List.getElem?_cons_zero, List.getElem?_cons_succ, List.set_cons_zero, List.set_cons_succ, Nat.reduceAdd, Nat.reduceSub, if_true, if_false, Bool.true_and, Bool.and_true, Bool.false_and, Bool.and_false, Bool.not_true, Bool.not_false, Bool.or_true, Bool.true_or, Bool.or_false, Bool.false_or, Bool.false_eq_true, reduceCtorEq, Bool.not_not, gEq_int], fun _ => rfl⟩
  simp only [F_closed, Fb_closed, runFn, fSeq, fIf, fRet, fDrop, fAsg, fNew, fRetNew, fSkip, fRetN, fBrk, fCnt, tAnd, tOr, tNot, tE, eT, eBin, eUn, eC, eVar, eTup, eLst, eIf, eCall, eMc, eChain, eChain3, aNil, aCons, bindP, setAll, nLst, nBin, nCall, nSl, eSl, oNone, oSome, eFr, nComp, eIsi, tYesF, wipeE, iSeq, iEnumD, iRange1, iRange2, iRange3, fFor, Option.bind_some, Option.bind_none, Option.map_some, Option.map_none, List.map_cons, List.map_nil, List.length_cons, List.length_nil, List.replicate_succ, List.replicate_zero, List.cons_append, List.nil_append, List.append_nil, List.getElem?_cons_zero, List.getElem?_cons_succ, List.set_cons_zero, List.set_cons_succ, Nat.reduceAdd, Nat.reduceSub, if_true, if_false, Bool.true_and, Bool.and_true, Bool.false_and, Bool.and_false, Bool.not_true, Bool.not_false, Bool.or_true, Bool.true_or, Bool.or_false, Bool.false_or, Bool.false_eq_true, reduceCtorEq, Bool.not_not, call2, nl_netD, nl_isD, asked_drawn_ok N h, open_of_v N, hf, hl, hc]
  rfl
theorem closed_n (N : NetOk n ss) (h : DrOk ss.length dr) (M : List MO) : callN F_closed [netD n ss, isD dr] M = some ((closedM n ss dr).map D.int, M) := callN_loc (closed_at N h) rfl (nls_ints _)
theorem comp_free {pt : Pat} {ft : FT} {fe : FE} {env : En} {M : List MO} (m : Nat) (h : ∀ i : Nat, ∃ e1, bindP pt (.int (i : Nat)) env = some e1 ∧ ft e1 M = some (decide ((i : Int) ∉ dr), M) ∧ fe e1 M = some (.int (i : Nat), M)) :
    compL pt ft fe env (upFrom 0 m) M = some ((freeM m dr).map D.int, M) := by
  have hu : upFrom 0 m = (List.range m).map fun i : Nat => D.int (i : Nat) := by
    rw [upFrom_map]
    exact List.map_congr_left fun i _ => by rw [Int.zero_add]
  rw [hu, compL_map (fun i : Nat => D.int (i : Nat)) (fun i => decide ((i : Int) ∉ dr)) (fun i => D.int (i : Nat)) _ fun i _ => ?_, freeM, List.map_map]
  · rfl
  · obtain ⟨e1, h1, h2, h3⟩ := h i
    exact ⟨e1, h1, h2, fun _ => h3⟩
theorem free_of_at (hl : ss.length ≤ 1000) : F_free_of [netD n ss, isD dr] [] = some (.rt (.loc 0) [.lst ((freeM ss.length dr).map D.int)]) := by
  have el2 : ∀ M, gLen M [ssD ss] = some (.int (ss.length : Nat)) := fun M => by rw [gLen_lst, List.length_map]
  have hc := comp_free (dr := dr) (pt := .nm 2) (ft := T_free_of_1) (fe := E_free_of_1) (env := [some (netD n ss), some (isD dr), none]) (M := []) ss.length fun i => ⟨_, rfl, by
    simp only [T_free_of_1, runFn, fSeq, fIf, fRet, fDrop, fAsg, fNew, fRetNew, fSkip, fRetN, fBrk, fCnt, tAnd, tOr, tNot, tE, eT, eBin, eUn, eC, eVar, eTup, eLst, eIf, eCall, eMc, eChain, eChain3, aNil, aCons, bindP, setAll, nLst, nBin, nCall, nSl, eSl, oNone, oSome, eFr, nComp, eIsi, tYesF, wipeE, iSeq, iEnumD, iRange1, iRange2, iRange3, fFor, Option.bind_some, Option.bind_none, Option.map_some, Option.map_none, List.map_cons, List.map_nil, List.length_cons, List.length_nil, List.replicate_succ, List.replicate_zero, List.cons_append, List.nil_append, List.append_nil, List.getElem?_cons_zero, List.getElem?_cons_succ, List.set_cons_zero, List.set_cons_succ, Nat.reduceAdd, Nat.reduceSub, if_true, if_false, Bool.true_and, Bool.and_true, Bool.false_and, Bool.and_false, Bool.not_true, Bool.not_false, Bool.or_true, Bool.true_or, Bool.or_false, Bool.false_or, Bool.false_eq_true, reduceCtorEq, Bool.not_not, gNin_isD]
    rw [← decide_not], rfl⟩
  simp only [F_free_of, Fb_free_of, runFn, fSeq, fIf, fRet, fDrop, fAsg, fNew, fRetNew, fSkip, fRetN, fBrk, fCnt, tAnd, tOr, tNot, tE, eT, eBin, eUn, eC, eVar, eTup, eLst, eIf, eCall, eMc, eChain, eChain3, aNil, aCons, bindP, setAll, nLst, nBin, nCall, nSl, eSl, oNone, oSome, eFr, nComp, eIsi, tYesF, wipeE, iSeq, iEnumD, iRange1, iRange2, iRange3, fFor, Option.bind_some, Option.bind_none, Option.map_some, Option.map_none, List.map_cons, List.map_nil, List.length_cons, List.length_nil, List.replicate_succ, List.replicate_zero, List.cons_append, List.nil_append, List.append_nil, List.getElem?_cons_zero, List.getElem?_cons_succ, List.set_cons_zero, List.set_cons_succ, Nat.reduceAdd, Nat.reduceSub, if_true, if_false, Bool.true_and, Bool.and_true, Bool.false_and, Bool.and_false, Bool.not_true, Bool.not_false, Bool.or_true, Bool.true_or, Bool.or_false, Bool.false_or, Bool.false_eq_true, reduceCtorEq, Bool.not_not, net1, el2, smallI_of (show -1000000 ≤ (ss.length : Int) by omega) (by omega), Int.toNat_natCast, upFrom_length, lim_of (show ss.length ≤ 1000000 by omega), hc]
theorem free_of_n (hl : ss.length ≤ 1000) (M : List MO) : callN F_free_of [netD n ss, isD dr] M = some ((freeM ss.length dr).map D.int, M) := callN_loc (free_of_at hl) rfl (nls_ints _)
theorem free_of_v (hl : ss.length ≤ 1000) (M : List MO) : callV F_free_of [netD n ss, isD dr] M = some (isD (freeM ss.length dr), M) := callV_loc (free_of_at hl) rfl (nls_ints _)
theorem free_at (N : NetOk n ss) (h : DrOk ss.length dr) : F_free [netD n ss, isD dr] [] = some (.rt (.loc 0) [.lst ((freeM ss.length dr).map D.int)]) := by
  have hc := ncall2 (F := F_free_of) (a := eVar 0) (b := eVar 1) (env := [some (netD n ss), some (isD dr)]) (M := []) (r := (netD n ss, [])) (s := (isD dr, [])) rfl rfl (by rw [nl_netD, nl_isD]; rfl)
  rw [free_of_n (by have := N.len; omega)] at hc
  simp only [F_free, Fb_free, runFn, fSeq, fIf, fRet, fDrop, fAsg, fNew, fRetNew, fSkip, fRetN, fBrk, fCnt, tAnd, tOr, tNot, tE, eT, eBin, eUn, eC, eVar, eTup, eLst, eIf, eCall, eMc, eChain, eChain3, aNil, aCons, bindP, setAll, nLst, nBin, nCall, nSl, eSl, oNone, oSome, eFr, nComp, eIsi, tYesF, wipeE, iSeq, iEnumD, iRange1, iRange2, iRange3, fFor, Option.bind_some, Option.bind_none, Option.map_some, Option.map_none, List.map_cons, List.map_nil, List.length_cons, List.length_nil, List.replicate_succ, List.replicate_zero, List.cons_append, List.nil_append, List.append_nil, List.getElem?_cons_zero, List.getElem?_cons_succ, List.set_cons_zero, List.set_cons_succ, Nat.reduceAdd, Nat.reduceSub, if_true, if_false, Bool.true_and, Bool.and_true, Bool.false_and, Bool.and_false, Bool.not_true, Bool.not_false, Bool.or_true, Bool.true_or, Bool.or_false, Bool.false_or, Bool.false_eq_true, reduceCtorEq, Bool.not_not, call2, nl_netD, nl_isD, asked_drawn_ok N h]
  simp only [eVar] at hc
  rw [hc]
  rfl
theorem free_n (N : NetOk n ss) (h : DrOk ss.length dr) (M : List MO) : callN F_free [netD n ss, isD dr] M = some ((freeM ss.length dr).map D.int, M) := callN_loc (free_at N h) rfl (nls_ints _)
/-! ### a side drawn -/
theorem cnt_congr {d1 d2 : List Int} (h : ∀ x, x ∈ d1 ↔ x ∈ d2) (b : Int) : ∀ (ss : List (Int × Int)) (j : Nat), cnt d1 b j ss = cnt d2 b j ss
  | [], _ => rfl
  | s :: ss, j => by rw [cnt, cnt, cnt_congr h b ss]; simp only [h]
theorem openM_congr {d1 d2 : List Int} (h : ∀ x, x ∈ d1 ↔ x ∈ d2) : openM n ss d1 = openM n ss d2 := List.map_congr_left fun b _ => cnt_congr h b ss 0
theorem openM_srt (side : Int) : openM n ss (srtI (dr ++ [side])) = openM n ss (dr ++ [side]) := openM_congr fun x => (srtI_perm _).mem_iff
def closesM (n : Int) (ss : List (Int × Int)) (dr : List Int) (side : Int) : Int := ((openM n ss (dr ++ [side])).count 0 : Nat) - ((openM n ss dr).count 0 : Nat)
theorem gCount_int {M : List MO} {d : D} {xs : List Int} {k : Int} (h : asR M d = some (xs.map D.int)) : gCount M d [.int k] = some (.int (xs.count k : Nat), M) := by
  rw [gCount, h, Option.bind_some, intsD_map]
  rfl
theorem gCount_isD {M : List MO} {xs : List Int} {k : Int} : gCount M (isD xs) [.int k] = some (.int (xs.count k : Nat), M) := gCount_int rfl
theorem gAdd_isD {M : List MO} {xs ys : List Int} (h : xs.length + ys.length ≤ 1000000) : gAdd M (isD xs) (isD ys) = some (isD (xs ++ ys)) := by
  show ((asL M (isD xs)).bind fun _ => _) = _
  simp only [asL, Option.bind_some, List.length_map, lim_of h, if_true, isD, List.map_append]
theorem drawn_on_at (N : NetOk n ss) (h : dr.length ≤ 1000) (side : Int) : F_drawn_on [netD n ss, isD dr, .int side] [] = some (.rt (.tup [.loc 0, .int (closesM n ss dr side)]) [.lst ((srtI (dr ++ [side])).map D.int)]) := by
  have g1 : gAdd [] (isD dr) (.lst [.int side]) = some (isD (dr ++ [side])) := gAdd_isD (ys := [side]) (by simp; omega)
  have g2 : gSortedN [] [isD (dr ++ [side])] = some ((srtI (dr ++ [side])).map D.int) := gSortedN_int rfl (by simp; omega)
  have l1 : lim 1 = true := rfl
  have l2 : lim 2 = true := rfl
  have hc : eCallF F_open_of [false, true] (aCons (eVar 0) (aCons (eVar 3) aNil)) [some (netD n ss), some (isD dr), some (.int side), some (.loc 0)] [.lst ((srtI (dr ++ [side])).map D.int)] =
      some (isD (openM n ss (dr ++ [side])), [.lst ((srtI (dr ++ [side])).map D.int)]) := by
    have ho := open_of_at (M0 := [.lst ((srtI (dr ++ [side])).map D.int)]) (drD := .loc 0) (dr := srtI (dr ++ [side])) (fun o => rfl) N
    simp only [List.length_cons, List.length_nil, Nat.zero_add, List.cons_append, List.nil_append, openM_srt] at ho
    have hn := nls_ints (srtI (dr ++ [side]))
    have hn2 := fun f => rsvs_nl f (nls_ints (openM n ss (dr ++ [side])))
    simp only [eCallF, aCons, aNil, eVar, Option.bind_some, Option.bind_none, Option.map_some, Option.map_none, List.map_cons, List.map_nil, List.length_cons, List.length_nil, List.replicate_succ, List.replicate_zero, List.cons_append, List.nil_append, List.append_nil, List.getElem?_cons_zero, List.getElem?_cons_succ, List.set_cons_zero, List.set_cons_succ, Nat.reduceAdd, Nat.reduceSub, if_true, if_false, Bool.true_and, Bool.and_true, Bool.false_and, Bool.and_false, Bool.not_true, Bool.not_false, Bool.or_true, Bool.true_or, Bool.or_false, Bool.false_or, Bool.false_eq_true, reduceCtorEq, Bool.not_not, prep, nl_netD, distinct, List.contains_nil, getAll, moNl, hn, ho, putAll, rsv, lkF, Nat.lt_irrefl, hn2]
  simp only [F_drawn_on, Fb_drawn_on, fRetTupM, mE, mNil, runFn, fSeq, fIf, fRet, fDrop, fAsg, fNew, fRetNew, fSkip, fRetN, fBrk, fCnt, tAnd, tOr, tNot, tE, eT, eBin, eUn, eC, eVar, eTup, eLst, eIf, eCall, eMc, eChain, eChain3, aNil, aCons, bindP, setAll, nLst, nBin, nCall, nSl, eSl, oNone, oSome, eFr, nComp, eIsi, tYesF, wipeE, iSeq, iEnumD, iRange1, iRange2, iRange3, fFor, Option.bind_some, Option.bind_none, Option.map_some, Option.map_none, List.map_cons, List.map_nil, List.length_cons, List.length_nil, List.replicate_succ, List.replicate_zero, List.cons_append, List.nil_append, List.append_nil, List.getElem?_cons_zero, List.getElem?_cons_succ, List.set_cons_zero, List.set_cons_succ, Nat.reduceAdd, Nat.reduceSub, if_true, if_false, Bool.true_and, Bool.and_true, Bool.false_and, Bool.and_false, Bool.not_true, Bool.not_false, Bool.or_true, Bool.true_or, Bool.or_false, Bool.false_or, Bool.false_eq_true, reduceCtorEq, Bool.not_not, g1, l1, g2, hc, call2, nl_netD, nl_isD, open_of_v N, gCount_isD, gI_int, alcM]
  rfl
theorem drawn_on_m (N : NetOk n ss) (h : dr.length ≤ 1000) (side : Int) (M : List MO) : callM F_drawn_on [netD n ss, isD dr, .int side] M = some ([.n ((srtI (dr ++ [side])).map D.int), .d (.int (closesM n ss dr side))], M) := by
  have hn := nls_ints (srtI (dr ++ [side]))
  unfold callM
  rw [drawn_on_at N h]
  simp only [Option.bind_some, Option.bind_none, Option.map_some, Option.map_none, List.map_cons, List.map_nil, List.length_cons, List.length_nil, List.replicate_succ, List.replicate_zero, List.cons_append, List.nil_append, List.append_nil, List.getElem?_cons_zero, List.getElem?_cons_succ, List.set_cons_zero, List.set_cons_succ, Nat.reduceAdd, Nat.reduceSub, if_true, if_false, Bool.true_and, Bool.and_true, Bool.false_and, Bool.and_false, Bool.not_true, Bool.not_false, Bool.or_true, Bool.true_or, Bool.or_false, Bool.false_or, Bool.false_eq_true, reduceCtorEq, Bool.not_not, thawL, Nat.not_lt_zero, hn, nl_int, distinct, List.contains_nil]
theorem drawn_on_v (N : NetOk n ss) (h : dr.length ≤ 1000) (side : Int) (M : List MO) : callV F_drawn_on [netD n ss, isD dr, .int side] M = some (.tup [isD (srtI (dr ++ [side])), .int (closesM n ss dr side)], M) := by
  have hn := fun f => rsvs_nl f (nls_ints (srtI (dr ++ [side])))
  unfold callV
  rw [drawn_on_at N h]
  simp only [Option.bind_some, Option.bind_none, Option.map_some, Option.map_none, List.map_cons, List.map_nil, List.length_cons, List.length_nil, List.replicate_succ, List.replicate_zero, List.cons_append, List.nil_append, List.append_nil, List.getElem?_cons_zero, List.getElem?_cons_succ, List.set_cons_zero, List.set_cons_succ, Nat.reduceAdd, Nat.reduceSub, if_true, if_false, Bool.true_and, Bool.and_true, Bool.false_and, Bool.and_false, Bool.not_true, Bool.not_false, Bool.or_true, Bool.true_or, Bool.or_false, Bool.false_or, Bool.false_eq_true, reduceCtorEq, Bool.not_not, rsv, rsvs, lkF, Nat.not_lt_zero, hn]
theorem mcall3 {F : Fn} {a b c : FE} {env : En} {M : List MO} {r s t : D × List MO} (h1 : a env M = some r) (h2 : b env r.2 = some s) (h3 : c env s.2 = some t) (hn : (nl r.1 && nl s.1 && nl t.1) = true) : mCallT F [false, false, false] (aCons a (aCons b (aCons c aNil))) env M = callM F [r.1, s.1, t.1] t.2 :=
  mCallT_data (by simp [aCons, aNil, h1, h2, h3]) (by simpa [nls, Bool.and_assoc] using hn) rfl
theorem draw_at (N : NetOk n ss) (h : DrOk ss.length dr) {side : Int} (h0 : 0 ≤ side) (h1 : side < ss.length) (h2 : side ∉ dr) : F_draw [netD n ss, isD dr, .int side] [] = some (.rt (.tup [.loc 0, .int (closesM n ss dr side)]) [.lst ((srtI (dr ++ [side])).map D.int)]) := by
  have el2 : ∀ M, gLen M [ssD ss] = some (.int (ss.length : Nat)) := fun M => by rw [gLen_lst, List.length_map]
  have ew : ∀ i M, callV F_is_whole [.int i] M = some (.bl true, M) := fun i M => is_whole_int i
  have hl := h.len
  have hl2 := N.len
  have hc := mcall3 (F := F_drawn_on) (a := eVar 0) (b := eVar 1) (c := eVar 2) (env := [some (netD n ss), some (isD dr), some (.int side)]) (M := []) (r := (netD n ss, [])) (s := (isD dr, [])) (t := (.int side, [])) rfl rfl rfl (by rw [nl_netD, nl_isD]; rfl)
  rw [drawn_on_m N (by omega)] at hc
  simp only [F_draw, Fb_draw, fRetThaw, runFn, fSeq, fIf, fRet, fDrop, fAsg, fNew, fRetNew, fSkip, fRetN, fBrk, fCnt, tAnd, tOr, tNot, tE, eT, eBin, eUn, eC, eVar, eTup, eLst, eIf, eCall, eMc, eChain, eChain3, aNil, aCons, bindP, setAll, nLst, nBin, nCall, nSl, eSl, oNone, oSome, eFr, nComp, eIsi, tYesF, wipeE, iSeq, iEnumD, iRange1, iRange2, iRange3, fFor, Option.bind_some, Option.bind_none, Option.map_some, Option.map_none, List.map_cons, List.map_nil, List.length_cons, List.length_nil, List.replicate_succ, List.replicate_zero, List.cons_append, List.nil_append, List.append_nil, List.getElem?_cons_zero, List.getElem?_cons_succ, List.set_cons_zero, List.set_cons_succ, Nat.reduceAdd, Nat.reduceSub, if_true, if_false, Bool.true_and, Bool.and_true, Bool.false_and, Bool.and_false, Bool.not_true, Bool.not_false, Bool.or_true, Bool.true_or, Bool.or_false, Bool.false_or, Bool.false_eq_true, reduceCtorEq, Bool.not_not, call1, call2, nl_netD, nl_isD, nl_int, asked_drawn_ok N h, ew, gLe_int, gLt_int, decide_eq_true h0, net1, el2, decide_eq_true h1, gIn_isD, decide_eq_false h2, hc, alcM]
theorem draw_m (N : NetOk n ss) (h : DrOk ss.length dr) {side : Int} (h0 : 0 ≤ side) (h1 : side < ss.length) (h2 : side ∉ dr) (M : List MO) : callM F_draw [netD n ss, isD dr, .int side] M = some ([.n ((srtI (dr ++ [side])).map D.int), .d (.int (closesM n ss dr side))], M) := by
  have hn := nls_ints (srtI (dr ++ [side]))
  unfold callM
  rw [draw_at N h h0 h1 h2]
  simp only [Option.bind_some, Option.bind_none, Option.map_some, Option.map_none, List.map_cons, List.map_nil, List.length_cons, List.length_nil, List.replicate_succ, List.replicate_zero, List.cons_append, List.nil_append, List.append_nil, List.getElem?_cons_zero, List.getElem?_cons_succ, List.set_cons_zero, List.set_cons_succ, Nat.reduceAdd, Nat.reduceSub, if_true, if_false, Bool.true_and, Bool.and_true, Bool.false_and, Bool.and_false, Bool.not_true, Bool.not_false, Bool.or_true, Bool.true_or, Bool.or_false, Bool.false_or, Bool.false_eq_true, reduceCtorEq, Bool.not_not, thawL, Nat.not_lt_zero, hn, nl_int, distinct, List.contains_nil]
theorem draw_v (N : NetOk n ss) (h : DrOk ss.length dr) {side : Int} (h0 : 0 ≤ side) (h1 : side < ss.length) (h2 : side ∉ dr) (M : List MO) : callV F_draw [netD n ss, isD dr, .int side] M = some (.tup [isD (srtI (dr ++ [side])), .int (closesM n ss dr side)], M) := by
  have hn := fun f => rsvs_nl f (nls_ints (srtI (dr ++ [side])))
  unfold callV
  rw [draw_at N h h0 h1 h2]
  simp only [Option.bind_some, Option.bind_none, Option.map_some, Option.map_none, List.map_cons, List.map_nil, List.length_cons, List.length_nil, List.replicate_succ, List.replicate_zero, List.cons_append, List.nil_append, List.append_nil, List.getElem?_cons_zero, List.getElem?_cons_succ, List.set_cons_zero, List.set_cons_succ, Nat.reduceAdd, Nat.reduceSub, if_true, if_false, Bool.true_and, Bool.and_true, Bool.false_and, Bool.and_false, Bool.not_true, Bool.not_false, Bool.or_true, Bool.true_or, Bool.or_false, Bool.false_or, Bool.false_eq_true, reduceCtorEq, Bool.not_not, rsv, rsvs, lkF, Nat.not_lt_zero, hn]
/-! ### a side closes two boxes at the most -/
theorem countP_or {α : Type} (p q r : α → Bool) (l : List α) (h : ∀ a ∈ l, p a = true → q a = true ∨ r a = true) : l.countP p ≤ l.countP q + l.countP r := by
  induction l with
  | nil => simp
  | cons a l ih =>
    have ih := ih fun b hb => h b (List.mem_cons_of_mem _ hb)
    have ha := h a List.mem_cons_self
    simp only [List.countP_cons]
    cases hp : p a <;> cases hq : q a <;> cases hr : r a <;> simp_all <;> omega
theorem count_range_one (a : Int) (k : Nat) : (List.range k).countP (fun i : Nat => decide ((i : Int) = a)) ≤ 1 := by
  induction k with
  | zero => simp
  | succ k ih =>
    rw [List.range_succ, List.countP_append]
    by_cases h : (k : Int) = a
    · have : (List.range k).countP (fun i : Nat => decide ((i : Int) = a)) = 0 := by
        rw [List.countP_eq_zero]
        intro i hi
        have := List.mem_range.mp hi
        simp
        omega
      rw [this]
      simp [h]
    · simp [h, ih]
theorem cnt_other {side b : Int} : ∀ {ss : List (Int × Int)} {j : Nat}, (∀ (i : Nat) s, ss[i]? = some s → ((j + i : Nat) : Int) = side → ¬ (b = s.1 ∨ b = s.2)) → cnt (dr ++ [side]) b j ss = cnt dr b j ss
  | [], _, _ => rfl
  | s :: ss, j, h => by
    rw [cnt, cnt, cnt_other (ss := ss) (j := j + 1) fun i t ht e => h (i + 1) t (by simpa using ht) (by rw [← e]; congr 1; omega)]
    congr 1
    have h0 := h 0 s rfl
    by_cases hb : b = s.1 ∨ b = s.2
    · have hj : ¬ ((j : Nat) : Int) = side := fun e => h0 (by simpa using e) hb
      simp [hb, hj]
    · simp [hb]
theorem cnt_nonneg {b : Int} : ∀ (ss : List (Int × Int)) (j : Nat), 0 ≤ cnt dr b j ss
  | [], _ => by simp [cnt]
  | s :: ss, j => by
    rw [cnt]
    have := cnt_nonneg (b := b) ss (j + 1)
    split <;> omega
theorem cnt_mono {d1 d2 : List Int} {b : Int} (h : ∀ x ∈ d1, x ∈ d2) : ∀ (ss : List (Int × Int)) (j : Nat), cnt d2 b j ss ≤ cnt d1 b j ss
  | [], _ => by simp [cnt]
  | s :: ss, j => by
    rw [cnt, cnt]
    have := cnt_mono (b := b) h ss (j + 1)
    by_cases h1 : ((j : Nat) : Int) ∈ d1
    · have h2 := h _ h1
      simp [h1, h2, this]
    · by_cases h2 : ((j : Nat) : Int) ∈ d2
      · simp [h1, h2]
        split <;> omega
      · simp [h1, h2, this]
theorem zeros_countP (d : List Int) : (openM n ss d).count 0 = (List.range n.toNat).countP (fun b : Nat => decide (cnt d (b : Int) 0 ss = 0)) := by
  rw [openM, List.count, List.countP_map]
  congr 1
theorem closesM_le (side : Int) : closesM n ss dr side ≤ 2 := by
  unfold closesM
  rw [zeros_countP, zeros_countP]
  by_cases hs : ∃ s, 0 ≤ side ∧ ss[side.toNat]? = some s
  · obtain ⟨s, h0, hs⟩ := hs
    have h1 := countP_or (fun b : Nat => decide (cnt (dr ++ [side]) (b : Int) 0 ss = 0)) (fun b : Nat => decide (cnt dr (b : Int) 0 ss = 0)) (fun b : Nat => decide ((b : Int) = s.1) || decide ((b : Int) = s.2)) (List.range n.toNat) fun b _ hb => by
      by_cases hq : (b : Int) = s.1 ∨ (b : Int) = s.2
      · exact .inr (by simpa using hq)
      · refine .inl ?_
        rw [cnt_other (fun i t ht e => by
          have e2 : i = side.toNat := by omega
          rw [e2, hs] at ht
          cases ht
          exact hq)] at hb
        exact hb
    have h2 := countP_or (fun b : Nat => decide ((b : Int) = s.1) || decide ((b : Int) = s.2)) (fun b : Nat => decide ((b : Int) = s.1)) (fun b : Nat => decide ((b : Int) = s.2)) (List.range n.toNat) fun b _ hb => by simpa using hb
    have h3 := count_range_one s.1 n.toNat
    have h4 := count_range_one s.2 n.toNat
    omega
  · have h1 : ∀ b : Nat, cnt (dr ++ [side]) (b : Int) 0 ss = cnt dr (b : Int) 0 ss := fun b => cnt_other fun i t ht e => absurd ⟨t, by omega, by rw [show side.toNat = i by omega]; exact ht⟩ hs
    simp only [h1]
    omega
end
end BL

set_option Elab.async false
set_option linter.all false
set_option maxRecDepth 100000
set_option maxHeartbeats 2000000
/-! PN4: the law's own reckoning of nets. -/
namespace BL
open PySem BX
open PySem.Builtin.Int (intBits)
theorem floors_ok (M : List MO) : callV F__law_floor_right [.int 1, .int 1] M = some (.bl true, M) ∧ callV F__law_floor_right [.int 1, .int 2] M = some (.bl true, M) ∧ callV F__law_floor_right [.int 1, .int 3] M = some (.bl true, M) ∧
    callV F__law_floor_right [.int 2, .int 1] M = some (.bl true, M) ∧ callV F__law_floor_right [.int 2, .int 2] M = some (.bl true, M) ∧ callV F__law_floor_right [.int 3, .int 1] M = some (.bl true, M) := by
  refine ⟨?_, ?_, ?_, ?_, ?_, ?_⟩ <;> kernel_rfl
theorem forR {pt : Pat} {body : FS} {k : Nat} {env : En} {M : List MO} (I : Nat → En → List MO → Prop) (hs : ∀ (i : Nat) env M, i < k → I i env M → ∃ e1 env' M', bindP pt (.int (i : Nat)) env = some e1 ∧ (body e1 M = some (.nx env' M') ∨ body e1 M = some (.ct env' M')) ∧ I (i + 1) env' M') (h0 : I 0 env M) :
    ∃ env' M', forL pt body (upFrom 0 k) env M = some (.nx env' M') ∧ I k env' M' := by
  have h := forL_inv (pt := pt) (body := body) (I := I) (ds := upFrom 0 k) (j := 0) (env := env) (M := M) (fun i d env M hd hi => by
    have hi2 := (List.getElem?_eq_some_iff.mp hd).1
    rw [upFrom_length] at hi2
    have e := upFrom_get _ _ _ _ hd
    rw [Int.zero_add] at e
    subst e
    rw [Nat.zero_add] at hi ⊢
    exact hs i env M hi2 hi) h0
  rw [upFrom_length, Nat.zero_add] at h
  exact h
theorem forA {α : Type} {pt : Pat} {body : FS} {as : List α} {dd : α → D} {env : En} {M : List MO} (I : Nat → En → List MO → Prop) (hs : ∀ (i : Nat) a env M, as[i]? = some a → I i env M → ∃ e1 env' M', bindP pt (dd a) env = some e1 ∧ (body e1 M = some (.nx env' M') ∨ body e1 M = some (.ct env' M')) ∧ I (i + 1) env' M') (h0 : I 0 env M) :
    ∃ env' M', forL pt body (as.map dd) env M = some (.nx env' M') ∧ I as.length env' M' := by
  have h := forL_inv (pt := pt) (body := body) (I := I) (ds := as.map dd) (j := 0) (env := env) (M := M) (fun i d env M hd hi => by
    rw [List.getElem?_map] at hd
    rw [Nat.zero_add] at hi ⊢
    cases ha : as[i]? with
    | none => rw [ha] at hd; cases hd
    | some a =>
      rw [ha] at hd
      cases hd
      exact hs i a env M ha hi) h0
  rw [List.length_map, Nat.zero_add] at h
  exact h
/-! ### _law_open -/
section
variable {n : Int} {ss : List (Int × Int)} {dr : List Int}
theorem filter_cnt (b : Int) : ∀ (ss : List (Int × Int)) (j : Nat), (((ss.zipIdx j).filter fun p => decide (b = p.1.1 ∨ b = p.1.2) && !decide (((p.2 : Nat) : Int) ∈ dr)).length : Int) = cnt dr b j ss
  | [], _ => rfl
  | s :: ss, j => by
    have ih := filter_cnt b ss (j + 1)
    rw [List.zipIdx_cons, List.filter_cons, cnt]
    by_cases h1 : b = s.1 ∨ b = s.2
    · by_cases h2 : ((j : Nat) : Int) ∈ dr
      · simp only [h1, h2, decide_true, Bool.not_true, Bool.and_false, Bool.false_eq_true, if_false, not_true, and_false, ih]
        omega
      · simp only [h1, h2, decide_true, decide_false, Bool.not_false, Bool.and_true, if_true, not_false_eq_true, and_true, List.length_cons]
        omega
    · simp only [h1, decide_false, Bool.false_and, Bool.false_eq_true, if_false, false_and, ih]
      omega
theorem law_open_step (hs : ss.length ≤ 1000) {b : Int} {e4 e5 : Option D} {xs : List D} (hx : xs.length ≤ 1000) :
    L__law_open_1 [some (netD n ss), some (isD dr), some (.loc 0), some (.int b), e4, e5] [.lst xs] = some (.nx [some (netD n ss), some (isD dr), some (.loc 0), some (.int b), e4, e5] [.lst (xs ++ [.int (cnt dr b 0 ss)])]) := by
  have ea : asFL (ssD ss) = some (ss.map sdD) := rfl
  have hc : compL (.tp [4, 5]) T__law_open_1 E__law_open_1 [some (netD n ss), some (isD dr), some (.loc 0), some (.int b), none, none] (enumF 0 (ss.map sdD)) [.lst xs] =
      some ((((ss.zipIdx 0).filter fun p => decide (b = p.1.1 ∨ b = p.1.2) && !decide (((p.2 : Nat) : Int) ∈ dr)).map fun p => D.int (p.2 : Nat)), [.lst xs]) := by
    rw [enumF_map]
    refine compL_map (fun p : (Int × Int) × Nat => D.tup [.int (p.2 : Nat), sdD p.1]) (fun p => decide (b = p.1.1 ∨ b = p.1.2) && !decide (((p.2 : Nat) : Int) ∈ dr)) (fun p => D.int (p.2 : Nat)) _ fun p _ => ⟨_, rfl, ?_, fun _ => rfl⟩
    simp only [T__law_open_1, runFn, fSeq, fIf, fRet, fDrop, fAsg, fNew, fRetNew, fSkip, fRetN, fBrk, fCnt, tAnd, tOr, tNot, tE, eT, eBin, eUn, eC, eVar, eTup, eLst, eIf, eCall, eMc, eChain, eChain3, aNil, aCons, bindP, setAll, nLst, nBin, nCall, nSl, eSl, oNone, oSome, eFr, nComp, eIsi, tYesF, wipeE, iSeq, iEnumD, iRange1, iRange2, iRange3, fFor, Option.bind_some, Option.bind_none, Option.map_some, Option.map_none, List.map_cons, List.map_nil, List.length_cons, List.length_nil, List.replicate_succ, List.replicate_zero, List.cons_append, List.nil_append, List.append_nil, List.getElem?_cons_zero, List.getElem?_cons_succ, List.set_cons_zero, List.set_cons_succ, Nat.reduceAdd, Nat.reduceSub, if_true, if_false, Bool.true_and, Bool.and_true, Bool.false_and, Bool.and_false, Bool.not_true, Bool.not_false, Bool.or_true, Bool.true_or, Bool.or_false, Bool.false_or, Bool.false_eq_true, reduceCtorEq, Bool.not_not, gIn_sd, gNin_isD]
    cases decide (b = p.1.1 ∨ b = p.1.2) <;> rfl
  have hl : lim (enumF 0 (ss.map sdD)).length = true := lim_of (by rw [enumF_length, List.length_map]; omega)
  have g2 : locL [.lst xs] (.loc 0) = some (0, xs) := rfl
  have g3 : asR [.lst xs] (.loc 0) = some xs := rfl
  simp only [L__law_open_1, runFn, fSeq, fIf, fRet, fDrop, fAsg, fNew, fRetNew, fSkip, fRetN, fBrk, fCnt, tAnd, tOr, tNot, tE, eT, eBin, eUn, eC, eVar, eTup, eLst, eIf, eCall, eMc, eChain, eChain3, aNil, aCons, bindP, setAll, nLst, nBin, nCall, nSl, eSl, oNone, oSome, eFr, nComp, eIsi, tYesF, wipeE, iSeq, iEnumD, iRange1, iRange2, iRange3, fFor, Option.bind_some, Option.bind_none, Option.map_some, Option.map_none, List.map_cons, List.map_nil, List.length_cons, List.length_nil, List.replicate_succ, List.replicate_zero, List.cons_append, List.nil_append, List.append_nil, List.getElem?_cons_zero, List.getElem?_cons_succ, List.set_cons_zero, List.set_cons_succ, Nat.reduceAdd, Nat.reduceSub, if_true, if_false, Bool.true_and, Bool.and_true, Bool.false_and, Bool.and_false, Bool.not_true, Bool.not_false, Bool.or_true, Bool.true_or, Bool.or_false, Bool.false_or, Bool.false_eq_true, reduceCtorEq, Bool.not_not, g3, net1, ea, hl, hc, gLen_lst, gApp, g2, lim_of (show xs.length ≤ 1000000 by omega), List.length_map, filter_cnt]
theorem law_open_at (hn : 0 ≤ n ∧ n ≤ 1000) (hs : ss.length ≤ 1000) : F__law_open [netD n ss, isD dr] [] = some (.rt (.loc 0) [.lst ((openM n ss dr).map D.int)]) := by
  have l0 : lim 0 = true := rfl
  obtain ⟨env', M', h1, ⟨e3, e4, e5, rfl, rfl⟩⟩ := forR (pt := .nm 3) (body := L__law_open_1) (k := n.toNat) (env := [some (netD n ss), some (isD dr), some (.loc 0), none, none, none]) (M := [.lst []])
    (fun i env M => ∃ e3 e4 e5 : Option D, env = [some (netD n ss), some (isD dr), some (.loc 0), e3, e4, e5] ∧ M = [.lst (fl i fun b => cnt dr (b : Int) 0 ss)])
    (fun i env M hi ⟨e3, e4, e5, he, hM⟩ => by
      subst he hM
      refine ⟨_, _, _, rfl, .inl (law_open_step hs (by rw [fl_len]; omega)), _, e4, e5, rfl, ?_⟩
      simp [fl, List.range_succ]) ⟨none, none, none, rfl, rfl⟩
  simp only [F__law_open, Fb__law_open, runFn, fSeq, fIf, fRet, fDrop, fAsg, fNew, fRetNew, fSkip, fRetN, fBrk, fCnt, tAnd, tOr, tNot, tE, eT, eBin, eUn, eC, eVar, eTup, eLst, eIf, eCall, eMc, eChain, eChain3, aNil, aCons, bindP, setAll, nLst, nBin, nCall, nSl, eSl, oNone, oSome, eFr, nComp, eIsi, tYesF, wipeE, iSeq, iEnumD, iRange1, iRange2, iRange3, fFor, Option.bind_some, Option.bind_none, Option.map_some, Option.map_none, List.map_cons, List.map_nil, List.length_cons, List.length_nil, List.replicate_succ, List.replicate_zero, List.cons_append, List.nil_append, List.append_nil, List.getElem?_cons_zero, List.getElem?_cons_succ, List.set_cons_zero, List.set_cons_succ, Nat.reduceAdd, Nat.reduceSub, if_true, if_false, Bool.true_and, Bool.and_true, Bool.false_and, Bool.and_false, Bool.not_true, Bool.not_false, Bool.or_true, Bool.true_or, Bool.or_false, Bool.false_or, Bool.false_eq_true, reduceCtorEq, Bool.not_not, l0, List.length_nil, net0, smallI_of (show -1000000 ≤ n by omega) (by omega), h1, fl_openM]
theorem law_open_v (hn : 0 ≤ n ∧ n ≤ 1000) (hs : ss.length ≤ 1000) (M : List MO) : callV F__law_open [netD n ss, isD dr] M = some (isD (openM n ss dr), M) := callV_loc (law_open_at hn hs) rfl (nls_ints _)
theorem law_closes_v (hn : 0 ≤ n ∧ n ≤ 1000) (hs : ss.length ≤ 1000) (hd : dr.length ≤ 1000) (side : Int) (M : List MO) : callV F__law_closes [netD n ss, isD dr, .int side] M = some (.int (closesM n ss dr side), M) := by
  have g1 : ∀ M, gAdd M (isD dr) (.lst [.int side]) = some (isD (dr ++ [side])) := fun M => gAdd_isD (ys := [side]) (by simp; omega)
  have l1 : lim 1 = true := rfl
  have g3 : ∀ xs, asR [] (isD xs) = some (xs.map D.int) := fun _ => rfl
  unfold callV
  simp only [F__law_closes, Fb__law_closes, runFn, fSeq, fIf, fRet, fDrop, fAsg, fNew, fRetNew, fSkip, fRetN, fBrk, fCnt, tAnd, tOr, tNot, tE, eT, eBin, eUn, eC, eVar, eTup, eLst, eIf, eCall, eMc, eChain, eChain3, aNil, aCons, bindP, setAll, nLst, nBin, nCall, nSl, eSl, oNone, oSome, eFr, nComp, eIsi, tYesF, wipeE, iSeq, iEnumD, iRange1, iRange2, iRange3, fFor, Option.bind_some, Option.bind_none, Option.map_some, Option.map_none, List.map_cons, List.map_nil, List.length_cons, List.length_nil, List.replicate_succ, List.replicate_zero, List.cons_append, List.nil_append, List.append_nil, List.getElem?_cons_zero, List.getElem?_cons_succ, List.set_cons_zero, List.set_cons_succ, Nat.reduceAdd, Nat.reduceSub, if_true, if_false, Bool.true_and, Bool.and_true, Bool.false_and, Bool.and_false, Bool.not_true, Bool.not_false, Bool.or_true, Bool.true_or, Bool.or_false, Bool.false_or, Bool.false_eq_true, reduceCtorEq, Bool.not_not, l1, g1, g3, call2, nl_netD, nl_isD, law_open_v hn hs, gCount_isD, gI_int, rsv]
  rfl
theorem law_copied_v (M : List MO) : callV F__law_copied [netD n ss] M = some (netD n ss, M) := by
  have g1 : ∀ M, gList M [ssD ss] = some (ssD ss) := fun _ => rfl
  have hn := fun f => rsv_nl f (nl_netD n ss)
  have l1 : lim 2 = true := rfl
  unfold callV
  simp only [F__law_copied, Fb__law_copied, runFn, fSeq, fIf, fRet, fDrop, fAsg, fNew, fRetNew, fSkip, fRetN, fBrk, fCnt, tAnd, tOr, tNot, tE, eT, eBin, eUn, eC, eVar, eTup, eLst, eIf, eCall, eMc, eChain, eChain3, aNil, aCons, bindP, setAll, nLst, nBin, nCall, nSl, eSl, oNone, oSome, eFr, nComp, eIsi, tYesF, wipeE, iSeq, iEnumD, iRange1, iRange2, iRange3, fFor, Option.bind_some, Option.bind_none, Option.map_some, Option.map_none, List.map_cons, List.map_nil, List.length_cons, List.length_nil, List.replicate_succ, List.replicate_zero, List.cons_append, List.nil_append, List.append_nil, List.getElem?_cons_zero, List.getElem?_cons_succ, List.set_cons_zero, List.set_cons_succ, Nat.reduceAdd, Nat.reduceSub, if_true, if_false, Bool.true_and, Bool.and_true, Bool.false_and, Bool.and_false, Bool.not_true, Bool.not_false, Bool.or_true, Bool.true_or, Bool.or_false, Bool.false_or, Bool.false_eq_true, reduceCtorEq, Bool.not_not, net0, net1, g1, l1, hn]
end
/-! ### _law_number -/
theorem cMul_of {i j : Int} {a b : Nat} (hi : intBits i ≤ a) (hj : intBits j ≤ b) (h : a + b < 100000000) : cMul i j = true := by
  have key : ∀ {x : Int} {m : Nat}, intBits x ≤ m → x.natAbs.log2 ≤ m := fun {x m} h => by
    unfold Builtin.Int.intBits at h
    by_cases h0 : x = 0
    · subst h0
      show Nat.log2 0 ≤ m
      exact Nat.zero_le _
    · rw [if_neg (by simpa using h0)] at h
      omega
  have h1 := key hi
  have h2 := key hj
  exact decide_eq_true (by omega)
theorem gMul_int {M : List MO} {i j : Int} {a b : Nat} (hi : intBits i ≤ a) (hj : intBits j ≤ b) (h : a + b < 100000000) : gMul M (.int i) (.int j) = some (.int (i * j)) := by
  show (if cMul i j = true then _ else _) = _
  rw [if_pos (cMul_of hi hj h)]
theorem ib_small {x : Int} {m : Nat} (h : x.natAbs < 2 ^ m) : intBits x ≤ m := intBits_le_iff.mpr h
theorem gMod_int {M : List MO} {i j : Int} (h : 0 < j) : gIC cMod (fun i j => i % j) M (.int i) (.int j) = some (.int (i % j)) := by
  show (if cMod i j = true then _ else _) = _
  rw [if_pos (show cMod i j = true from decide_eq_true h)]
theorem gDiv_int {M : List MO} {i j : Int} (h : 0 < j) (h2 : j < 1073741824) : gIC cDiv (fun i j => i / j) M (.int i) (.int j) = some (.int (i / j)) := by
  show (if cDiv i j = true then _ else _) = _
  rw [if_pos (by unfold cDiv; rw [decide_eq_true h, decide_eq_true h2]; rfl)]
theorem law_number_v {c a w : Int} (hc : intBits c ≤ 2000000) (hw : intBits w ≤ 2000000) (ha : 0 ≤ a) (ha2 : a ≤ 100000) (M : List MO) : ∃ z, callV F__law_number [.int c, .int a, .int w] M = some (.int z, M) := by
  have gp : ∀ M, gIC cPow (fun i j => i ^ j.toNat) M (.int 10) (.int 18) = some (.int 1000000000000000000) := fun _ => rfl
  have ma := Int.emod_nonneg a (show (7 : Int) ≠ 0 by decide)
  have ma2 := Int.emod_lt_of_pos a (show (0 : Int) < 7 by decide)
  have ba : intBits a ≤ 20 := ib_small (by omega)
  have ba31 : intBits (31 * a) ≤ 30 := ib_small (by omega)
  have b977 : intBits (977 * a) ≤ 30 := ib_small (by omega)
  have k977 : intBits 977 ≤ 10 := ib_small (by decide)
  have k31 : intBits 31 ≤ 10 := ib_small (by decide)
  have k48 : intBits 48271 ≤ 20 := ib_small (by decide)
  have k5 : intBits 5 ≤ 20 := ib_small (by decide)
  have k7 : intBits 7 ≤ 20 := ib_small (by decide)
  have k11 : intBits 11 ≤ 20 := ib_small (by decide)
  have b1 : intBits (c + 977 * a) ≤ 2000002 := Nat.le_trans (intBits_add_le hc b977) (by decide)
  generalize hB : ((c + 977 * a) * 48271 + w) % 2147483647 = B
  have hB0 : 0 ≤ B := by rw [← hB]; exact Int.emod_nonneg _ (by decide)
  have hB1 : B < 2147483647 := by rw [← hB]; exact Int.emod_lt_of_pos _ (by decide)
  have bB : intBits B ≤ 31 := ib_small (by omega)
  have b2 : intBits (c + 31 * a) ≤ 2000002 := Nat.le_trans (intBits_add_le hc ba31) (by decide)
  have b3 : intBits (c + 31 * a + 7) ≤ 2000003 := Nat.le_trans (intBits_add_le b2 k7) (by decide)
  have b4 : intBits (B * (c + 31 * a + 7)) ≤ 2000034 := Nat.le_trans (intBits_mul_le bB b3) (by decide)
  have b5 : intBits (B + c) ≤ 2000002 := Nat.le_trans (intBits_add_le bB hc) (by decide)
  have b6 : intBits (B + c + 5) ≤ 2000003 := Nat.le_trans (intBits_add_le b5 k5) (by decide)
  have b7 : intBits (B * (c + 31 * a + 7) * (B + c + 5)) ≤ 4000037 := Nat.le_trans (intBits_mul_le b4 b6) (by decide)
  have b8 : intBits (B * B) ≤ 62 := Nat.le_trans (intBits_mul_le bB bB) (by decide)
  have b9 : intBits (B * B + 11) ≤ 63 := Nat.le_trans (intBits_add_le b8 k11) (by decide)
  have e1 : ∀ M, gMul M (.int 977) (.int a) = some (.int (977 * a)) := fun M => gMul_int k977 ba (by decide)
  have e2 : ∀ M, gMul M (.int (c + 977 * a)) (.int 48271) = some (.int ((c + 977 * a) * 48271)) := fun M => gMul_int b1 k48 (by decide)
  have e3 : ∀ M, gMul M (.int 31) (.int a) = some (.int (31 * a)) := fun M => gMul_int k31 ba (by decide)
  have e4 : ∀ M, gMul M (.int B) (.int (c + 31 * a + 7)) = some (.int (B * (c + 31 * a + 7))) := fun M => gMul_int bB b3 (by decide)
  have e5 : ∀ M, gMul M (.int (B * (c + 31 * a + 7))) (.int (B + c + 5)) = some (.int (B * (c + 31 * a + 7) * (B + c + 5))) := fun M => gMul_int b4 b6 (by decide)
  have e6 : ∀ M, gMul M (.int B) (.int B) = some (.int (B * B)) := fun M => gMul_int bB bB (by decide)
  have e7 : ∀ M, gMul M (.int (B * (c + 31 * a + 7) * (B + c + 5))) (.int (B * B + 11)) = some (.int (B * (c + 31 * a + 7) * (B + c + 5) * (B * B + 11))) := fun M => gMul_int b7 b9 (by decide)
  unfold callV
  by_cases hge : (1000000000000000000 : Int) ≤ c
  · refine ⟨c / (1 + a % 7), ?_⟩
    simp only [F__law_number, Fb__law_number, runFn, fSeq, fIf, fRet, fDrop, fAsg, fNew, fRetNew, fSkip, fRetN, fBrk, fCnt, tAnd, tOr, tNot, tE, eT, eBin, eUn, eC, eVar, eTup, eLst, eIf, eCall, eMc, eChain, eChain3, aNil, aCons, bindP, setAll, nLst, nBin, nCall, nSl, eSl, oNone, oSome, eFr, nComp, eIsi, tYesF, wipeE, iSeq, iEnumD, iRange1, iRange2, iRange3, fFor, Option.bind_some, Option.bind_none, Option.map_some, Option.map_none, List.map_cons, List.map_nil, List.length_cons, List.length_nil, List.replicate_succ, List.replicate_zero, List.cons_append, List.nil_append, List.append_nil, List.getElem?_cons_zero, List.getElem?_cons_succ, List.set_cons_zero, List.set_cons_succ, Nat.reduceAdd, Nat.reduceSub, if_true, if_false, Bool.true_and, Bool.and_true, Bool.false_and, Bool.and_false, Bool.not_true, Bool.not_false, Bool.or_true, Bool.true_or, Bool.or_false, Bool.false_or, Bool.false_eq_true, reduceCtorEq, Bool.not_not, gp, gGe_int, decide_eq_true hge, gMod_int (show (0 : Int) < 7 by decide), gAdd_int, gDiv_int (show 0 < 1 + a % 7 by omega) (by omega), rsv]
  · refine ⟨B * (c + 31 * a + 7) * (B + c + 5) * (B * B + 11) / (1009 + a), ?_⟩
    simp only [F__law_number, Fb__law_number, runFn, fSeq, fIf, fRet, fDrop, fAsg, fNew, fRetNew, fSkip, fRetN, fBrk, fCnt, tAnd, tOr, tNot, tE, eT, eBin, eUn, eC, eVar, eTup, eLst, eIf, eCall, eMc, eChain, eChain3, aNil, aCons, bindP, setAll, nLst, nBin, nCall, nSl, eSl, oNone, oSome, eFr, nComp, eIsi, tYesF, wipeE, iSeq, iEnumD, iRange1, iRange2, iRange3, fFor, Option.bind_some, Option.bind_none, Option.map_some, Option.map_none, List.map_cons, List.map_nil, List.length_cons, List.length_nil, List.replicate_succ, List.replicate_zero, List.cons_append, List.nil_append, List.append_nil, List.getElem?_cons_zero, List.getElem?_cons_succ, List.set_cons_zero, List.set_cons_succ, Nat.reduceAdd, Nat.reduceSub, if_true, if_false, Bool.true_and, Bool.and_true, Bool.false_and, Bool.and_false, Bool.not_true, Bool.not_false, Bool.or_true, Bool.true_or, Bool.or_false, Bool.false_or, Bool.false_eq_true, reduceCtorEq, Bool.not_not, gp, gGe_int, decide_eq_false hge, gMod_int (show (0 : Int) < 2147483647 by decide), gAdd_int, e1, e2, hB, e3, e4, e5, e6, e7, gDiv_int (show 0 < 1009 + a by omega) (by omega), rsv]
end BL

set_option Elab.async false
set_option linter.all false
set_option maxRecDepth 100000
set_option maxHeartbeats 2000000
/-! PN5: the law's nets and drawn sides. -/
namespace BL
open PySem BX
open PySem.Builtin.Int (intBits)
abbrev frD (ns : List Int) : D := .frz (ns.map D.int)
structure ScrOk (ns : List Int) : Prop where
  len : ns.length ≤ 63
  bits : ∀ z ∈ ns, intBits z ≤ 1048576
def cellsM (c0 : Int) (ns : List Int) : List Int := if ns = [] then [c0] else ns
theorem nl_frD (ns : List Int) : nl (frD ns) = true := nls_ints ns
theorem gNe_frD {M : List MO} (ns : List Int) : gNe M (frD ns) (.lst []) = some (.bl (!decide (ns = []))) := by
  rw [gNe, eqD_gd (n := 1) (by rw [gd]; exact gds_ints 0 ns) rfl]
  cases ns with
  | nil => rfl
  | cons x xs => simp [py, pys, PyData.eqv, PyData.eqvAll]
theorem cut_frD {ns : List Int} (h : ns.length ≤ 63) : cutD (ns.map D.int) none (some 63) = ns.map D.int := by
  have e : HT.sIx (ns.map D.int).length (ns.map D.int).length (some 63) = ns.length := by
    rw [show (63 : Int) = ((63 : Nat) : Int) from rfl, HT.sIx_nat, List.length_map]
    omega
  unfold cutD
  rw [e, HT.sIx_none, List.drop_zero, Nat.sub_zero, List.take_of_length_le (by simp)]
theorem asR_frD {M : List MO} {ns : List Int} : asR M (frD ns) = some (ns.map D.int) := rfl
theorem cells_len {c0 : Int} {ns : List Int} (h : ScrOk ns) : 1 ≤ (cellsM c0 ns).length ∧ (cellsM c0 ns).length ≤ 63 := by
  unfold cellsM
  split
  · simp
  · rename_i hn
    have := h.len
    cases ns with
    | nil => exact absurd rfl hn
    | cons x xs => simp at this ⊢; omega
theorem cells_bits {c0 : Int} {ns : List Int} (h : ScrOk ns) (hc : c0.natAbs < 2 ^ 10) : ∀ z ∈ cellsM c0 ns, intBits z ≤ 1048576 := by
  unfold cellsM
  split
  · intro z hz
    simp at hz
    subst hz
    exact Nat.le_trans (ib_small hc) (by decide)
  · exact h.bits
theorem sum_bits {m : Nat} : ∀ {xs : List Int}, (∀ z ∈ xs, intBits z ≤ m) → intBits xs.sum ≤ m + xs.length
  | [], _ => by simp [Builtin.Int.intBits]
  | x :: xs, h => by
    have h1 := sum_bits fun z hz => h z (List.mem_cons_of_mem _ hz)
    have h2 := intBits_add_le (h x List.mem_cons_self) h1
    rw [List.sum_cons, List.length_cons]
    omega
def wholeM (c0 by_ : Int) (ns : List Int) : Int := (if (cellsM c0 ns).sum < 0 then -(cellsM c0 ns).sum else (cellsM c0 ns).sum) + by_
theorem whole_ok {c0 b : Int} {ns : List Int} (h : ScrOk ns) (hc : c0.natAbs < 2 ^ 10) (hb : 0 ≤ b) (hb2 : b ≤ 1000) : 0 ≤ wholeM c0 b ns ∧ intBits (wholeM c0 b ns) ≤ 2000000 := by
  have h1 := sum_bits (cells_bits (c0 := c0) h hc)
  have h2 := (cells_len (c0 := c0) h).2
  unfold wholeM
  refine ⟨by split <;> omega, ?_⟩
  have h3 : intBits (if (cellsM c0 ns).sum < 0 then -(cellsM c0 ns).sum else (cellsM c0 ns).sum) ≤ 1048639 := by
    split
    · exact intBits_neg_le (by omega)
    · omega
  have h4 : intBits b ≤ 10 := ib_small (by omega)
  exact Nat.le_trans (intBits_add_le h3 h4) (by decide)
theorem gSum_isD {M : List MO} {xs : List Int} : gSum M [isD xs] = some (.int xs.sum) := by
  show ((intsD (xs.map D.int)).map fun ns => D.int ns.sum) = _
  rw [intsD_map]
  rfl
theorem gAbs_int {M : List MO} {i : Int} : gAbs M [.int i] = some (.int (if i < 0 then -i else i)) := rfl
theorem gLen_isD {M : List MO} {xs : List Int} : gLen M [isD xs] = some (.int (xs.length : Nat)) := by rw [gLen_lst, List.length_map]
theorem gMin_int {M : List MO} {i j : Int} : gMin M [.int i, .int j] = some (.int (if j < i then j else i)) := rfl
theorem gMax_int {M : List MO} {i j : Int} : gMax M [.int i, .int j] = some (.int (if j > i then j else i)) := rfl
theorem call3s {F : Fn} {a b c : FE} {env : En} {M : List MO} : eCallF F [false, false, false] (aCons a (aCons b (aCons c aNil))) env M = (a env M).bind fun r => (b env r.2).bind fun s => (c env s.2).bind fun t => if (nl r.1 && (nl s.1 && nl t.1)) = true then callV F [r.1, s.1, t.1] t.2 else none := by
  cases h : a env M with
  | none => simp [eCallF, aCons, h]
  | some r =>
    rw [Option.bind_some]
    cases h2 : b env r.2 with
    | none => simp [eCallF, aCons, h, h2]
    | some s =>
      rw [Option.bind_some]
      cases h3 : c env s.2 with
      | none => simp [eCallF, aCons, h, h2, h3]
      | some t =>
        rw [Option.bind_some]
        by_cases hn : (nl r.1 && (nl s.1 && nl t.1)) = true
        · rw [if_pos hn]
          exact callF_data (by simp [aCons, aNil, h, h2, h3]) (by simpa [nls] using hn) rfl
        · rw [if_neg hn]
          simp only [eCallF, aCons, aNil, h, h2, h3, Option.bind_some, Option.map_some, prep]
          cases h4 : nl r.1 with
          | false => rfl
          | true =>
            cases h5 : nl s.1 with
            | false => rfl
            | true =>
              cases h6 : nl t.1 with
              | false => rfl
              | true => simp [h4, h5, h6] at hn
structure NetB (boxes sides : Nat) (n : Int) (ss : List (Int × Int)) : Prop where
  n1 : 1 ≤ n
  n9 : n ≤ boxes
  len : ss.length ≤ sides
  sd : ∀ s ∈ ss, -1 ≤ s.1 ∧ s.1 < s.2 ∧ s.2 < n
  srt : ss.Pairwise (fun a b => sdLt b a = false)
  cov : ∀ b : Int, 0 ≤ b → b < n → ∃ s ∈ ss, b = s.1 ∨ b = s.2
theorem NetB.ok {boxes sides : Nat} {n : Int} {ss : List (Int × Int)} (h : NetB boxes sides n ss) (h1 : boxes ≤ 9) (h2 : sides ≤ 12) : NetOk n ss := ⟨h.n1, by have := h.n9; omega, by have := h.len; omega, h.sd, h.srt, h.cov⟩
/-- not yet in order -/
structure NetU (sides : Nat) (n : Int) (ss : List (Int × Int)) : Prop where
  len : ss.length ≤ sides
  sd : ∀ s ∈ ss, -1 ≤ s.1 ∧ s.1 < s.2 ∧ s.2 < n
  cov : ∀ b : Int, 0 ≤ b → b < n → ∃ s ∈ ss, b = s.1 ∨ b = s.2
theorem NetU.srt {boxes sides : Nat} {n : Int} {ss : List (Int × Int)} (h : NetU sides n ss) (h1 : 1 ≤ n) (h2 : n ≤ boxes) : NetB boxes sides n (srtS ss) :=
  ⟨h1, h2, by rw [srtS_len]; exact h.len, fun s hs => h.sd s ((srtS_perm ss).mem_iff.mp hs), srtS_pw ss, fun b b0 b1 => by
    obtain ⟨s, hs, e⟩ := h.cov b b0 b1
    exact ⟨s, (srtS_perm ss).mem_iff.mpr hs, e⟩⟩
def baseM (kind : Int) (i : Nat) : Int × Int := if kind = 2 ∨ (i : Int) = 0 then (-1, (i : Int)) else ((i : Int) - 1, (i : Int))
def base2M (kind : Int) (many : Int) : List (Int × Int) :=
  if kind = 1 ∧ 1 < many then ((List.range many.toNat).map (baseM kind)).set 0 (0, many - 1) else (List.range many.toNat).map (baseM kind)
theorem base2_ok {kind many : Int} (h : 1 ≤ many) : NetU many.toNat many (base2M kind many) := by
  have hb : ∀ s ∈ (List.range many.toNat).map (baseM kind), -1 ≤ s.1 ∧ s.1 < s.2 ∧ s.2 < many := fun s hs => by
    obtain ⟨i, hi, rfl⟩ := List.mem_map.mp hs
    have hi := List.mem_range.mp hi
    unfold baseM
    split <;> simp <;> omega
  unfold base2M
  by_cases hk : kind = 1 ∧ 1 < many
  · rw [if_pos hk]
    refine ⟨by simp, fun s hs => ?_, fun b b0 b1 => ?_⟩
    · rcases List.mem_or_eq_of_mem_set hs with hs | rfl
      · exact hb s hs
      · simp; omega
    · by_cases h0 : b = 0
      · refine ⟨(0, many - 1), ?_, .inl h0⟩
        refine List.mem_of_getElem? (i := 0) ?_
        rw [List.getElem?_set_self (by simp; omega)]
      · refine ⟨baseM kind b.toNat, List.mem_of_getElem? (i := b.toNat) ?_, .inr ?_⟩
        · rw [List.getElem?_set_ne (by omega), List.getElem?_map, List.getElem?_range (by omega)]
          rfl
        · unfold baseM
          split <;> simp <;> omega
  · rw [if_neg hk]
    refine ⟨by simp, hb, fun b b0 b1 => ⟨baseM kind b.toNat, List.mem_map.mpr ⟨b.toNat, List.mem_range.mpr (by omega), rfl⟩, .inr ?_⟩⟩
    unfold baseM
    split <;> simp <;> omega
theorem cell_at {c0 : Int} {ns : List Int} (h : ScrOk ns) (hc : c0.natAbs < 2 ^ 10) {i : Int} (hi : 0 ≤ i) (M : List MO) : ∃ c, gIx M (isD (cellsM c0 ns)) (.int (i % ((cellsM c0 ns).length : Nat))) = some (.int c) ∧ intBits c ≤ 2000000 := by
  have hl := cells_len (c0 := c0) h
  have h1 := Int.emod_nonneg i (show (((cellsM c0 ns).length : Nat) : Int) ≠ 0 by omega)
  have h2 := Int.emod_lt_of_pos i (show 0 < (((cellsM c0 ns).length : Nat) : Int) by omega)
  have hk : (i % ((cellsM c0 ns).length : Nat)).toNat < (cellsM c0 ns).length := by omega
  refine ⟨(cellsM c0 ns)[(i % ((cellsM c0 ns).length : Nat)).toNat], ?_, Nat.le_trans (cells_bits h hc _ (List.getElem_mem hk)) (by decide)⟩
  have := isD_get (M := M) (List.getElem?_eq_getElem hk)
  rw [Int.toNat_of_nonneg h1] at this
  exact this
theorem net_step {ns : List Int} (h : ScrOk ns) {by_ whole many kind : Int} {e0 boxesI sidesI e10 e11 e12 e13 : Option D} {i : Nat} {fs : List (Int × Int)} {b : Nat} (hm : 1 ≤ many) (hm2 : many ≤ 100) (hb : 0 ≤ by_) (hb2 : by_ ≤ 1000) (hi : i ≤ 1000) (hw : intBits whole ≤ 2000000) (U : NetU b many fs) (hbl : b ≤ 1000) :
    ∃ fs' e10' e11' e12', L__law_net_1 [e0, some (.int by_), boxesI, sidesI, some (isD (cellsM 5 ns)), some (.int whole), some (.int many), some (.int kind), some (.loc 0), some (.int (i : Nat)), e10, e11, e12, e13] [.lst (fs.map sdD)] =
      some (.nx [e0, some (.int by_), boxesI, sidesI, some (isD (cellsM 5 ns)), some (.int whole), some (.int many), some (.int kind), some (.loc 0), some (.int (i : Nat)), e10', e11', e12', e13] [.lst (fs'.map sdD)]) ∧ NetU (b + 1) many fs' := by
  obtain ⟨c, hc1, hc2⟩ := cell_at (c0 := 5) h (by decide) (i := (i : Int) + by_) (by omega) [.lst (fs.map sdD)]
  have hl := cells_len (c0 := 5) h
  obtain ⟨z, hz⟩ := law_number_v (c := c) (a := (i : Int) + by_) (w := whole) hc2 hw (by omega) (by omega) [.lst (fs.map sdD)]
  have l2 : lim 2 = true := rfl
  have hm3 := Int.emod_nonneg (z / 3) (show many + 1 ≠ 0 by omega)
  have hm4 := Int.emod_lt_of_pos (z / 3) (show 0 < many + 1 by omega)
  have hm5 := Int.emod_nonneg (z / 3 / 11) (show many ≠ 0 by omega)
  have hm6 := Int.emod_lt_of_pos (z / 3 / 11) (show 0 < many by omega)
  generalize hA : z / 3 % (many + 1) - 1 = A
  generalize hB : z / 3 / 11 % many = B
  have g2 : locL [.lst (fs.map sdD)] (.loc 0) = some (0, fs.map sdD) := rfl
  have g3 : asR [.lst (fs.map sdD)] (.loc 0) = some (fs.map sdD) := rfl
  have hlen := U.len
  by_cases hne : A = B
  · refine ⟨fs, some (.int (z / 3)), some (.int A), some (.int B), ?_, ⟨by omega, U.sd, U.cov⟩⟩
    simp only [L__law_net_1, runFn, fSeq, fIf, fRet, fDrop, fAsg, fNew, fRetNew, fSkip, fRetN, fBrk, fCnt, tAnd, tOr, tNot, tE, eT, eBin, eUn, eC, eVar, eTup, eLst, eIf, eCall, eMc, eChain, eChain3, aNil, aCons, bindP, setAll, nLst, nBin, nCall, nSl, eSl, oNone, oSome, eFr, nComp, eIsi, tYesF, wipeE, iSeq, iEnumD, iRange1, iRange2, iRange3, fFor, Option.bind_some, Option.bind_none, Option.map_some, Option.map_none, List.map_cons, List.map_nil, List.length_cons, List.length_nil, List.replicate_succ, List.replicate_zero, List.cons_append, List.nil_append, List.append_nil, List.getElem?_cons_zero, List.getElem?_cons_succ, List.set_cons_zero, List.set_cons_succ, Nat.reduceAdd, Nat.reduceSub, if_true, if_false, Bool.true_and, Bool.and_true, Bool.false_and, Bool.and_false, Bool.not_true, Bool.not_false, Bool.or_true, Bool.true_or, Bool.or_false, Bool.false_or, Bool.false_eq_true, reduceCtorEq, Bool.not_not, gAdd_int, gLen_isD, gMod_int (show (0 : Int) < ((cellsM 5 ns).length : Nat) by omega), hc1, call3s, nl_int, hz, gDiv_int (show (0 : Int) < 3 by decide) (by decide), gMod_int (show 0 < many + 1 by omega), gI_int, hA,
      gDiv_int (show (0 : Int) < 11 by decide) (by decide), gMod_int (show 0 < many by omega), hB, l2, gNe_int, decide_eq_true hne]
  · refine ⟨fs ++ [(if B < A then B else A, if B > A then B else A)], some (.int (z / 3)), some (.int A), some (.int B), ?_, ⟨by rw [List.length_append]; simp; omega, fun s hs => ?_, fun b b0 b1 => ?_⟩⟩
    · simp only [L__law_net_1, runFn, fSeq, fIf, fRet, fDrop, fAsg, fNew, fRetNew, fSkip, fRetN, fBrk, fCnt, tAnd, tOr, tNot, tE, eT, eBin, eUn, eC, eVar, eTup, eLst, eIf, eCall, eMc, eChain, eChain3, aNil, aCons, bindP, setAll, nLst, nBin, nCall, nSl, eSl, oNone, oSome, eFr, nComp, eIsi, tYesF, wipeE, iSeq, iEnumD, iRange1, iRange2, iRange3, fFor, Option.bind_some, Option.bind_none, Option.map_some, Option.map_none, List.map_cons, List.map_nil, List.length_cons, List.length_nil, List.replicate_succ, List.replicate_zero, List.cons_append, List.nil_append, List.append_nil, List.getElem?_cons_zero, List.getElem?_cons_succ, List.set_cons_zero, List.set_cons_succ, Nat.reduceAdd, Nat.reduceSub, if_true, if_false, Bool.true_and, Bool.and_true, Bool.false_and, Bool.and_false, Bool.not_true, Bool.not_false, Bool.or_true, Bool.true_or, Bool.or_false, Bool.false_or, Bool.false_eq_true, reduceCtorEq, Bool.not_not, gAdd_int, gLen_isD, gMod_int (show (0 : Int) < ((cellsM 5 ns).length : Nat) by omega), hc1, call3s, nl_int, hz, gDiv_int (show (0 : Int) < 3 by decide) (by decide), gMod_int (show 0 < many + 1 by omega), gI_int, hA,
        gDiv_int (show (0 : Int) < 11 by decide) (by decide), gMod_int (show 0 < many by omega), hB, l2, gNe_int, decide_eq_false hne, g3, gMin_int, gMax_int, gApp, g2, List.length_map, lim_of (show fs.length ≤ 1000000 by omega), List.map_append]
      rfl
    · rcases List.mem_append.mp hs with hs | hs
      · exact U.sd s hs
      · simp at hs
        subst hs
        show -1 ≤ (if B < A then B else A) ∧ (if B < A then B else A) < (if B > A then B else A) ∧ (if B > A then B else A) < many
        split <;> split <;> omega
    · obtain ⟨s, hs, e⟩ := U.cov b b0 b1
      exact ⟨s, List.mem_append_left _ hs, e⟩
theorem law_net_v {ns : List Int} (h : ScrOk ns) {by_ : Int} {boxes sides : Nat} (hb : 0 ≤ by_) (hb2 : by_ ≤ 1000) (h1 : 1 ≤ boxes) (h2 : boxes ≤ sides) (h3 : sides ≤ 90) (M : List MO) :
    ∃ n ss, callV F__law_net [frD ns, .int by_, .int (boxes : Nat), .int (sides : Nat)] M = some (netD n ss, M) ∧ NetB boxes sides n ss := by
  obtain ⟨w0, w1⟩ := whole_ok (c0 := 5) (b := by_) h (by decide) hb hb2
  have hs1 : (if ¬ ns = [] then some (D.lst (ns.map D.int), ([] : List MO)) else some (D.lst [.int 5], [])) = some (isD (cellsM 5 ns), []) := by
    unfold cellsM
    by_cases e : ns = []
    · simp [e]
    · simp [e]
  generalize hW : wholeM 5 by_ ns = W at w0 w1
  unfold wholeM at hW
  have m0 := Int.emod_nonneg W (show ((boxes : Nat) : Int) ≠ 0 by omega)
  have m1 := Int.emod_lt_of_pos W (show 0 < ((boxes : Nat) : Int) by omega)
  generalize hmany : 1 + W % (boxes : Nat) = many
  generalize hkind : W / (boxes : Nat) % 3 = kind
  have hl1 : lim 1 = true := rfl
  have hl2 : lim 2 = true := rfl
  have hl0 : lim 0 = true := rfl
  have hn63 := cut_frD h.len
  have c1 : compL (.nm 13) tYesF E__law_net_1 [some (frD ns), some (.int by_), some (.int (boxes : Nat)), some (.int (sides : Nat)), some (isD (cellsM 5 ns)), some (.int W), some (.int many), some (.int kind), none, none, none, none, none, none] (upFrom 0 many.toNat) [] = some (((List.range many.toNat).map (baseM kind)).map sdD, []) := by
    rw [upFrom_map, List.map_map]
    refine compL_all (fun i : Nat => D.int (0 + (i : Int))) _ _ fun i hi => ⟨_, rfl, ?_⟩
    rw [Int.zero_add]
    show _ = some (sdD (baseM kind i), [])
    unfold baseM
    by_cases k2 : kind = 2
    · simp only [E__law_net_1, runFn, fSeq, fIf, fRet, fDrop, fAsg, fNew, fRetNew, fSkip, fRetN, fBrk, fCnt, tAnd, tOr, tNot, tE, eT, eBin, eUn, eC, eVar, eTup, eLst, eIf, eCall, eMc, eChain, eChain3, aNil, aCons, bindP, setAll, nLst, nBin, nCall, nSl, eSl, oNone, oSome, eFr, nComp, eIsi, tYesF, wipeE, iSeq, iEnumD, iRange1, iRange2, iRange3, fFor, Option.bind_some, Option.bind_none, Option.map_some, Option.map_none, List.map_cons, List.map_nil, List.length_cons, List.length_nil, List.replicate_succ, List.replicate_zero, List.cons_append, List.nil_append, List.append_nil, List.getElem?_cons_zero, List.getElem?_cons_succ, List.set_cons_zero, List.set_cons_succ, Nat.reduceAdd, Nat.reduceSub, if_true, if_false, Bool.true_and, Bool.and_true, Bool.false_and, Bool.and_false, Bool.not_true, Bool.not_false, Bool.or_true, Bool.true_or, Bool.or_false, Bool.false_or, Bool.false_eq_true, reduceCtorEq, Bool.not_not, gEq_int, decide_eq_true k2, gNeg, hl2, k2, true_or]
      rfl
    · by_cases i0 : (i : Int) = 0
      · simp only [E__law_net_1, runFn, fSeq, fIf, fRet, fDrop, fAsg, fNew, fRetNew, fSkip, fRetN, fBrk, fCnt, tAnd, tOr, tNot, tE, eT, eBin, eUn, eC, eVar, eTup, eLst, eIf, eCall, eMc, eChain, eChain3, aNil, aCons, bindP, setAll, nLst, nBin, nCall, nSl, eSl, oNone, oSome, eFr, nComp, eIsi, tYesF, wipeE, iSeq, iEnumD, iRange1, iRange2, iRange3, fFor, Option.bind_some, Option.bind_none, Option.map_some, Option.map_none, List.map_cons, List.map_nil, List.length_cons, List.length_nil, List.replicate_succ, List.replicate_zero, List.cons_append, List.nil_append, List.append_nil, List.getElem?_cons_zero, List.getElem?_cons_succ, List.set_cons_zero, List.set_cons_succ, Nat.reduceAdd, Nat.reduceSub, if_true, if_false, Bool.true_and, Bool.and_true, Bool.false_and, Bool.and_false, Bool.not_true, Bool.not_false, Bool.or_true, Bool.true_or, Bool.or_false, Bool.false_or, Bool.false_eq_true, reduceCtorEq, Bool.not_not, gEq_int, decide_eq_false k2, decide_eq_true i0, gNeg, hl2, i0, or_true]
        rfl
      · simp only [E__law_net_1, runFn, fSeq, fIf, fRet, fDrop, fAsg, fNew, fRetNew, fSkip, fRetN, fBrk, fCnt, tAnd, tOr, tNot, tE, eT, eBin, eUn, eC, eVar, eTup, eLst, eIf, eCall, eMc, eChain, eChain3, aNil, aCons, bindP, setAll, nLst, nBin, nCall, nSl, eSl, oNone, oSome, eFr, nComp, eIsi, tYesF, wipeE, iSeq, iEnumD, iRange1, iRange2, iRange3, fFor, Option.bind_some, Option.bind_none, Option.map_some, Option.map_none, List.map_cons, List.map_nil, List.length_cons, List.length_nil, List.replicate_succ, List.replicate_zero, List.cons_append, List.nil_append, List.append_nil, List.getElem?_cons_zero, List.getElem?_cons_succ, List.set_cons_zero, List.set_cons_succ, Nat.reduceAdd, Nat.reduceSub, if_true, if_false, Bool.true_and, Bool.and_true, Bool.false_and, Bool.and_false, Bool.not_true, Bool.not_false, Bool.or_true, Bool.true_or, Bool.or_false, Bool.false_or, Bool.false_eq_true, reduceCtorEq, Bool.not_not, gEq_int, decide_eq_false k2, decide_eq_false i0, gI_int, hl2, i0, k2, or_self]
        rfl
  have cl : lim (upFrom 0 many.toNat).length = true := lim_of (by rw [upFrom_length]; omega)
  have hcnt0 := Int.emod_nonneg (W / 5) (show (((sides : Nat) : Int) - many + 1) ≠ 0 by omega)
  have hcnt1 := Int.emod_lt_of_pos (W / 5) (show 0 < (((sides : Nat) : Int) - many + 1) by omega)
  obtain ⟨env', M', lp, e9, e10, e11, e12, fs, rfl, rfl, U⟩ := forR (pt := .nm 9) (body := L__law_net_1) (k := (W / 5 % (((sides : Nat) : Int) - many + 1)).toNat) (env := [some (frD ns), some (.int by_), some (.int (boxes : Nat)), some (.int (sides : Nat)), some (isD (cellsM 5 ns)), some (.int W), some (.int many), some (.int kind), some (.loc 0), none, none, none, none, none]) (M := [.lst ((base2M kind many).map sdD)])
    (fun i env M => ∃ (e9 e10 e11 e12 : Option D) (fs : List (Int × Int)), env = [some (frD ns), some (.int by_), some (.int (boxes : Nat)), some (.int (sides : Nat)), some (isD (cellsM 5 ns)), some (.int W), some (.int many), some (.int kind), some (.loc 0), e9, e10, e11, e12, none] ∧ M = [.lst (fs.map sdD)] ∧ NetU (many.toNat + i) many fs)
    (fun i env M hi ⟨e9, e10, e11, e12, fs, he, hM, U⟩ => by
      subst he hM
      obtain ⟨fs', a, b, c, hs, U'⟩ := net_step (e0 := some (frD ns)) (boxesI := some (.int (boxes : Nat))) (sidesI := some (.int (sides : Nat))) (kind := kind) (e10 := e10) (e11 := e11) (e12 := e12) (e13 := none) (i := i) h (show 1 ≤ many by omega) (by omega) hb hb2 (by omega) w1 U (by omega)
      exact ⟨_, _, _, rfl, .inl hs, _, a, b, c, fs', rfl, rfl, U'⟩)
    ⟨none, none, none, none, base2M kind many, rfl, rfl, base2_ok (by omega)⟩
  refine ⟨many, srtS fs, ?_, (NetU.mk (n := many) (sides := sides) (by have := U.len; omega) U.sd U.cov).srt (by omega) (by omega)⟩
  have g3 : gSorted [.lst (fs.map sdD)] [.loc 0] = some (ssD (srtS fs)) := gSorted_sd rfl (by have := U.len; omega)
  have hfin := fun f => rsv_nl f (nl_netD many (srtS fs))
  have hne := gNe_frD (M := []) ns
  have hcell : (if (!decide (ns = [])) = true then some (D.lst (ns.map D.int), ([] : List MO)) else some (D.lst [.int 5], [])) = some (isD (cellsM 5 ns), []) := by
    unfold cellsM
    by_cases e : ns = []
    · simp [e]
    · simp [e]
  unfold callV
  by_cases k1 : kind = 1
  · by_cases km : 1 < many
    · have hb2 : base2M kind many = ((List.range many.toNat).map (baseM kind)).set 0 (0, many - 1) := if_pos ⟨k1, km⟩
      rw [hb2, List.map_set, show sdD (0, many - 1) = D.tup [.int 0, .int (many - 1)] from rfl] at lp
      have g2 : ∀ xs, locL [.lst xs] (.loc 0) = some (0, xs) := fun _ => rfl
      simp only [F__law_net, Fb__law_net, runFn, fSeq, fIf, fRet, fDrop, fAsg, fNew, fRetNew, fSkip, fRetN, fBrk, fCnt, tAnd, tOr, tNot, tE, eT, eBin, eUn, eC, eVar, eTup, eLst, eIf, eCall, eMc, eChain, eChain3, aNil, aCons, bindP, setAll, nLst, nBin, nCall, nSl, eSl, oNone, oSome, eFr, nComp, eIsi, tYesF, wipeE, iSeq, iEnumD, iRange1, iRange2, iRange3, fFor, Option.bind_some, Option.bind_none, Option.map_some, Option.map_none, List.map_cons, List.map_nil, List.length_cons, List.length_nil, List.replicate_succ, List.replicate_zero, List.cons_append, List.nil_append, List.append_nil, List.getElem?_cons_zero, List.getElem?_cons_succ, List.set_cons_zero, List.set_cons_succ, Nat.reduceAdd, Nat.reduceSub, if_true, if_false, Bool.true_and, Bool.and_true, Bool.false_and, Bool.and_false, Bool.not_true, Bool.not_false, Bool.or_true, Bool.true_or, Bool.or_false, Bool.false_or, Bool.false_eq_true, reduceCtorEq, Bool.not_not, hne, asR_frD, hn63, hl1, hl2, hl0, hcell, gSum_isD, gAbs_int, gAdd_int, hW, gMod_int (show (0 : Int) < (boxes : Nat) by omega), gDiv_int (show (0 : Int) < (boxes : Nat) by omega) (by omega), gMod_int (show (0 : Int) < 3 by decide), hmany, hkind,
        smallI_of (show -1000000 ≤ many by omega) (by omega), cl, c1, gEq_int, decide_eq_true k1, gGt_int, decide_eq_true km, g2, ixN_nat (show (0 : Int) ≤ 0 by decide) (show (0 : Int) < (many.toNat : Nat) by omega), Int.toNat_zero, gI_int, fSetIx, List.length_map, List.length_range, 
        gDiv_int (show (0 : Int) < 5 by decide) (by decide), gMod_int (show 0 < (((sides : Nat) : Int) - many + 1) by omega), smallI_of (show -1000000 ≤ W / 5 % (((sides : Nat) : Int) - many + 1) by omega) (by omega), lp, g3, hfin]
    · have hb2 : base2M kind many = ((List.range many.toNat).map (baseM kind)) := if_neg fun z => km z.2
      rw [hb2] at lp
      simp only [F__law_net, Fb__law_net, runFn, fSeq, fIf, fRet, fDrop, fAsg, fNew, fRetNew, fSkip, fRetN, fBrk, fCnt, tAnd, tOr, tNot, tE, eT, eBin, eUn, eC, eVar, eTup, eLst, eIf, eCall, eMc, eChain, eChain3, aNil, aCons, bindP, setAll, nLst, nBin, nCall, nSl, eSl, oNone, oSome, eFr, nComp, eIsi, tYesF, wipeE, iSeq, iEnumD, iRange1, iRange2, iRange3, fFor, Option.bind_some, Option.bind_none, Option.map_some, Option.map_none, List.map_cons, List.map_nil, List.length_cons, List.length_nil, List.replicate_succ, List.replicate_zero, List.cons_append, List.nil_append, List.append_nil, List.getElem?_cons_zero, List.getElem?_cons_succ, List.set_cons_zero, List.set_cons_succ, Nat.reduceAdd, Nat.reduceSub, if_true, if_false, Bool.true_and, Bool.and_true, Bool.false_and, Bool.and_false, Bool.not_true, Bool.not_false, Bool.or_true, Bool.true_or, Bool.or_false, Bool.false_or, Bool.false_eq_true, reduceCtorEq, Bool.not_not, hne, asR_frD, hn63, hl1, hl2, hl0, hcell, gSum_isD, gAbs_int, gAdd_int, hW, gMod_int (show (0 : Int) < (boxes : Nat) by omega), gDiv_int (show (0 : Int) < (boxes : Nat) by omega) (by omega), gMod_int (show (0 : Int) < 3 by decide), hmany, hkind,
        smallI_of (show -1000000 ≤ many by omega) (by omega), cl, c1, gEq_int, decide_eq_true k1, gGt_int, decide_eq_false km, gI_int, fSetIx, List.length_map, List.length_range, 
        gDiv_int (show (0 : Int) < 5 by decide) (by decide), gMod_int (show 0 < (((sides : Nat) : Int) - many + 1) by omega), smallI_of (show -1000000 ≤ W / 5 % (((sides : Nat) : Int) - many + 1) by omega) (by omega), lp, g3, hfin]
  · have hb2 : base2M kind many = ((List.range many.toNat).map (baseM kind)) := if_neg fun z => k1 z.1
    rw [hb2] at lp
    simp only [F__law_net, Fb__law_net, runFn, fSeq, fIf, fRet, fDrop, fAsg, fNew, fRetNew, fSkip, fRetN, fBrk, fCnt, tAnd, tOr, tNot, tE, eT, eBin, eUn, eC, eVar, eTup, eLst, eIf, eCall, eMc, eChain, eChain3, aNil, aCons, bindP, setAll, nLst, nBin, nCall, nSl, eSl, oNone, oSome, eFr, nComp, eIsi, tYesF, wipeE, iSeq, iEnumD, iRange1, iRange2, iRange3, fFor, Option.bind_some, Option.bind_none, Option.map_some, Option.map_none, List.map_cons, List.map_nil, List.length_cons, List.length_nil, List.replicate_succ, List.replicate_zero, List.cons_append, List.nil_append, List.append_nil, List.getElem?_cons_zero, List.getElem?_cons_succ, List.set_cons_zero, List.set_cons_succ, Nat.reduceAdd, Nat.reduceSub, if_true, if_false, Bool.true_and, Bool.and_true, Bool.false_and, Bool.and_false, Bool.not_true, Bool.not_false, Bool.or_true, Bool.true_or, Bool.or_false, Bool.false_or, Bool.false_eq_true, reduceCtorEq, Bool.not_not, hne, asR_frD, hn63, hl1, hl2, hl0, hcell, gSum_isD, gAbs_int, gAdd_int, hW, gMod_int (show (0 : Int) < (boxes : Nat) by omega), gDiv_int (show (0 : Int) < (boxes : Nat) by omega) (by omega), gMod_int (show (0 : Int) < 3 by decide), hmany, hkind,
        smallI_of (show -1000000 ≤ many by omega) (by omega), cl, c1, gEq_int, decide_eq_false k1, gI_int, fSetIx, List.length_map, List.length_range, 
        gDiv_int (show (0 : Int) < 5 by decide) (by decide), gMod_int (show 0 < (((sides : Nat) : Int) - many + 1) by omega), smallI_of (show -1000000 ≤ W / 5 % (((sides : Nat) : Int) - many + 1) by omega) (by omega), lp, g3, hfin]
/-! ### drawn sides -/
theorem drawn_step {ns : List Int} (h : ScrOk ns) {by_ whole : Int} {e0 e2 e7 : Option D} {i : Nat} {fs : List Int} (hb : 0 ≤ by_) (hb2 : by_ ≤ 1000) (hi : i ≤ 1000) (hw : intBits whole ≤ 2000000) (hl : fs.length ≤ i) :
    ∃ fs' e7', L__law_drawn_1 [e0, some (.int by_), e2, some (isD (cellsM 4 ns)), some (.int whole), some (.loc 0), some (.int (i : Nat)), e7] [.lst (fs.map D.int)] =
      some (.nx [e0, some (.int by_), e2, some (isD (cellsM 4 ns)), some (.int whole), some (.loc 0), some (.int (i : Nat)), e7'] [.lst (fs'.map D.int)]) ∧ (fs' = fs ∨ fs' = fs ++ [(i : Int)]) := by
  obtain ⟨c, hc1, hc2⟩ := cell_at (c0 := 4) h (by decide) (i := (i : Int) + by_) (by omega) [.lst (fs.map D.int)]
  have hl2 := cells_len (c0 := 4) h
  obtain ⟨z, hz⟩ := law_number_v (c := c) (a := (i : Int) + 3 * by_) (w := whole) hc2 hw (by omega) (by omega) [.lst (fs.map D.int)]
  have l3 : lim 3 = true := rfl
  have m3 : ∀ M, gMul M (.int 3) (.int by_) = some (.int (3 * by_)) := fun M => gMul_int (a := 10) (b := 20) (ib_small (by decide)) (ib_small (by omega)) (by decide)
  have w0 := Int.emod_nonneg whole (show (3 : Int) ≠ 0 by decide)
  have w1 := Int.emod_lt_of_pos whole (show (0 : Int) < 3 by decide)
  have hq : ∃ q : Int, 0 < q ∧ ∀ M, gIx M (.tup [.int 2, .int 4, .int 9]) (.int (whole % 3)) = some (.int q) := by
    rcases (show whole % 3 = 0 ∨ whole % 3 = 1 ∨ whole % 3 = 2 by omega) with e | e | e <;> rw [e]
    · exact ⟨2, by decide, fun _ => rfl⟩
    · exact ⟨4, by decide, fun _ => rfl⟩
    · exact ⟨9, by decide, fun _ => rfl⟩
  obtain ⟨q, q0, hq⟩ := hq
  have g2 : locL [.lst (fs.map D.int)] (.loc 0) = some (0, fs.map D.int) := rfl
  have g3 : asR [.lst (fs.map D.int)] (.loc 0) = some (fs.map D.int) := rfl
  by_cases hne : z / 3 % q = 0
  · refine ⟨fs ++ [(i : Int)], some (.int (z / 3)), ?_, .inr rfl⟩
    simp only [L__law_drawn_1, runFn, fSeq, fIf, fRet, fDrop, fAsg, fNew, fRetNew, fSkip, fRetN, fBrk, fCnt, tAnd, tOr, tNot, tE, eT, eBin, eUn, eC, eVar, eTup, eLst, eIf, eCall, eMc, eChain, eChain3, aNil, aCons, bindP, setAll, nLst, nBin, nCall, nSl, eSl, oNone, oSome, eFr, nComp, eIsi, tYesF, wipeE, iSeq, iEnumD, iRange1, iRange2, iRange3, fFor, Option.bind_some, Option.bind_none, Option.map_some, Option.map_none, List.map_cons, List.map_nil, List.length_cons, List.length_nil, List.replicate_succ, List.replicate_zero, List.cons_append, List.nil_append, List.append_nil, List.getElem?_cons_zero, List.getElem?_cons_succ, List.set_cons_zero, List.set_cons_succ, Nat.reduceAdd, Nat.reduceSub, if_true, if_false, Bool.true_and, Bool.and_true, Bool.false_and, Bool.and_false, Bool.not_true, Bool.not_false, Bool.or_true, Bool.true_or, Bool.or_false, Bool.false_or, Bool.false_eq_true, reduceCtorEq, Bool.not_not, gAdd_int, gLen_isD, gMod_int (show (0 : Int) < ((cellsM 4 ns).length : Nat) by omega), hc1, m3, call3s, nl_int, hz, gDiv_int (show (0 : Int) < 3 by decide) (by decide), gMod_int (show (0 : Int) < 3 by decide), l3, hq, gMod_int q0, gEq_int, decide_eq_true hne,
      g3, gApp, g2, List.length_map, lim_of (show fs.length ≤ 1000000 by omega), List.map_append]
  · refine ⟨fs, some (.int (z / 3)), ?_, .inl rfl⟩
    simp only [L__law_drawn_1, runFn, fSeq, fIf, fRet, fDrop, fAsg, fNew, fRetNew, fSkip, fRetN, fBrk, fCnt, tAnd, tOr, tNot, tE, eT, eBin, eUn, eC, eVar, eTup, eLst, eIf, eCall, eMc, eChain, eChain3, aNil, aCons, bindP, setAll, nLst, nBin, nCall, nSl, eSl, oNone, oSome, eFr, nComp, eIsi, tYesF, wipeE, iSeq, iEnumD, iRange1, iRange2, iRange3, fFor, Option.bind_some, Option.bind_none, Option.map_some, Option.map_none, List.map_cons, List.map_nil, List.length_cons, List.length_nil, List.replicate_succ, List.replicate_zero, List.cons_append, List.nil_append, List.append_nil, List.getElem?_cons_zero, List.getElem?_cons_succ, List.set_cons_zero, List.set_cons_succ, Nat.reduceAdd, Nat.reduceSub, if_true, if_false, Bool.true_and, Bool.and_true, Bool.false_and, Bool.and_false, Bool.not_true, Bool.not_false, Bool.or_true, Bool.true_or, Bool.or_false, Bool.false_or, Bool.false_eq_true, reduceCtorEq, Bool.not_not, gAdd_int, gLen_isD, gMod_int (show (0 : Int) < ((cellsM 4 ns).length : Nat) by omega), hc1, m3, call3s, nl_int, hz, gDiv_int (show (0 : Int) < 3 by decide) (by decide), gMod_int (show (0 : Int) < 3 by decide), l3, hq, gMod_int q0, gEq_int, decide_eq_false hne]
theorem law_drawn_v {ns : List Int} (h : ScrOk ns) {by_ n : Int} {ss : List (Int × Int)} (hb : 0 ≤ by_) (hb2 : by_ ≤ 1000) (hs : ss.length ≤ 1000) (M : List MO) :
    ∃ dr, callV F__law_drawn [frD ns, .int by_, netD n ss] M = some (isD dr, M) ∧ DrOk ss.length dr := by
  obtain ⟨w0, w1⟩ := whole_ok (c0 := 4) (b := by_) h (by decide) hb hb2
  generalize hW : wholeM 4 by_ ns = W at w0 w1
  unfold wholeM at hW
  have hl1 : lim 1 = true := rfl
  have hl0 : lim 0 = true := rfl
  have hn63 := cut_frD h.len
  have hne := gNe_frD (M := []) ns
  have hcell : (if (!decide (ns = [])) = true then some (D.lst (ns.map D.int), ([] : List MO)) else some (D.lst [.int 4], [])) = some (isD (cellsM 4 ns), []) := by
    unfold cellsM
    by_cases e : ns = []
    · simp [e]
    · simp [e]
  have el2 : ∀ M, gLen M [ssD ss] = some (.int (ss.length : Nat)) := fun M => by rw [gLen_lst, List.length_map]
  obtain ⟨env', M', lp, e6, e7, fs, rfl, rfl, U1, U2, U3⟩ := forR (pt := .nm 6) (body := L__law_drawn_1) (k := ss.length) (env := [some (frD ns), some (.int by_), some (netD n ss), some (isD (cellsM 4 ns)), some (.int W), some (.loc 0), none, none]) (M := [.lst (([] : List Int).map D.int)])
    (fun i env M => ∃ (e6 e7 : Option D) (fs : List Int), env = [some (frD ns), some (.int by_), some (netD n ss), some (isD (cellsM 4 ns)), some (.int W), some (.loc 0), e6, e7] ∧ M = [.lst (fs.map D.int)] ∧ fs.length ≤ i ∧ (∀ x ∈ fs, 0 ≤ x ∧ x < i) ∧ fs.Pairwise (· < ·))
    (fun i env M hi ⟨e6, e7, fs, he, hM, U1, U2, U3⟩ => by
      subst he hM
      obtain ⟨fs', a, hs, hf⟩ := drawn_step (e0 := some (frD ns)) (e2 := some (netD n ss)) (e7 := e7) (i := i) h hb hb2 (by omega) w1 U1
      refine ⟨_, _, _, rfl, .inl hs, _, a, fs', rfl, rfl, ?_⟩
      rcases hf with rfl | rfl
      · exact ⟨by omega, fun x hx => ⟨(U2 x hx).1, by have := (U2 x hx).2; omega⟩, U3⟩
      · refine ⟨by simp; omega, fun x hx => ?_, ?_⟩
        · rcases List.mem_append.mp hx with hx | hx
          · exact ⟨(U2 x hx).1, by have := (U2 x hx).2; omega⟩
          · simp at hx
            omega
        · rw [List.pairwise_append]
          refine ⟨U3, List.pairwise_singleton _ _, fun x hx y hy => ?_⟩
          simp at hy
          have := (U2 x hx).2
          omega)
    ⟨none, none, [], rfl, rfl, Nat.le_refl _, (fun x hx => (by cases hx)), List.Pairwise.nil⟩
  refine ⟨fs, ?_, ⟨U2, U3⟩⟩
  have hn := fun f => rsvs_nl f (nls_ints fs)
  unfold callV
  rw [List.map_nil] at lp
  simp only [F__law_drawn, Fb__law_drawn, runFn, fSeq, fIf, fRet, fDrop, fAsg, fNew, fRetNew, fSkip, fRetN, fBrk, fCnt, tAnd, tOr, tNot, tE, eT, eBin, eUn, eC, eVar, eTup, eLst, eIf, eCall, eMc, eChain, eChain3, aNil, aCons, bindP, setAll, nLst, nBin, nCall, nSl, eSl, oNone, oSome, eFr, nComp, eIsi, tYesF, wipeE, iSeq, iEnumD, iRange1, iRange2, iRange3, fFor, Option.bind_some, Option.bind_none, Option.map_some, Option.map_none, List.map_cons, List.map_nil, List.length_cons, List.length_nil, List.replicate_succ, List.replicate_zero, List.cons_append, List.nil_append, List.append_nil, List.getElem?_cons_zero, List.getElem?_cons_succ, List.set_cons_zero, List.set_cons_succ, Nat.reduceAdd, Nat.reduceSub, if_true, if_false, Bool.true_and, Bool.and_true, Bool.false_and, Bool.and_false, Bool.not_true, Bool.not_false, Bool.or_true, Bool.true_or, Bool.or_false, Bool.false_or, Bool.false_eq_true, reduceCtorEq, Bool.not_not, hne, asR_frD, hn63, hl1, hl0, hcell, gSum_isD, gAbs_int, gAdd_int, hW, fParM, mE, mN, mNil, alcM, net1, el2, smallI_of (show -1000000 ≤ (ss.length : Int) by omega) (by omega), Int.toNat_natCast, lp, rsv, lkF, Nat.not_lt_zero, hn]
end BL

set_option Elab.async false
set_option linter.all false
set_option maxRecDepth 100000
set_option maxHeartbeats 4000000
/-! PK14: the fourteenth law. -/
namespace BL
open PySem BX
open PySem.Builtin.Int (intBits)
def isT (o : Option Out) : Bool := match o with
  | some (.rt (.bl true) _) => true
  | _ => false
theorem of_isT {o : Option Out} (h : isT o = true) : ∃ M', o = some (.rt (.bl true) M') := by
  unfold isT at h
  split at h
  · exact ⟨_, rfl⟩
  · cases h
def outM (o : Option Out) : List MO := match o with
  | some (.rt _ m) => m
  | _ => []
abbrev tabs14 : List MO := [.tbl "_law_floors_right", .tbl "_law_sides_right"]
theorem floors14 : isT (F__law_floors_right_k14 [] tabs14) = true := by kernel_rfl
theorem sides14 : isT (F__law_sides_right [] (outM (F__law_floors_right_k14 [] tabs14))) = true := by kernel_rfl
/-- all lengths from lo on -/
def endsB (lo n : Nat) : Bool := (List.range n).all fun i => isT (F__law_endings_right_k14 [.int ((lo + i : Nat) : Int)] [])
theorem ends_of {lo n : Nat} (h : endsB lo n = true) {x : Nat} (h0 : lo ≤ x) (h1 : x < lo + n) : ∃ M', F__law_endings_right_k14 [.int (x : Nat)] [] = some (.rt (.bl true) M') := by
  have := List.all_eq_true.mp h (x - lo) (List.mem_range.mpr (by omega))
  rw [show lo + (x - lo) = x by omega] at this
  exact of_isT this
theorem ends_0 : endsB 0 100 = true := by kernel_rfl
theorem ends_1 : endsB 100 100 = true := by kernel_rfl
theorem ends_2 : endsB 200 100 = true := by kernel_rfl
theorem ends_3 : endsB 300 100 = true := by kernel_rfl
theorem ends_4 : endsB 400 100 = true := by kernel_rfl
theorem ends_5 : endsB 500 100 = true := by kernel_rfl
theorem ends_6 : endsB 600 100 = true := by kernel_rfl
theorem ends_7 : endsB 700 100 = true := by kernel_rfl
theorem ends_8 : endsB 800 100 = true := by kernel_rfl
theorem ends_9 : endsB 900 97 = true := by kernel_rfl
theorem ends14 {x : Int} (h0 : 0 ≤ x) (h1 : x < 997) (M : List MO) : callV F__law_endings_right_k14 [.int x] M = some (.bl true, M) := by
  obtain ⟨M', e⟩ : ∃ M', F__law_endings_right_k14 [.int x] [] = some (.rt (.bl true) M') := by
    obtain ⟨k, rfl⟩ : ∃ k : Nat, x = (k : Int) := ⟨x.toNat, by omega⟩
    by_cases c1 : k < 100
    · exact ends_of ends_0 (by omega) (by omega)
    by_cases c2 : k < 200
    · exact ends_of ends_1 (by omega) (by omega)
    by_cases c3 : k < 300
    · exact ends_of ends_2 (by omega) (by omega)
    by_cases c4 : k < 400
    · exact ends_of ends_3 (by omega) (by omega)
    by_cases c5 : k < 500
    · exact ends_of ends_4 (by omega) (by omega)
    by_cases c6 : k < 600
    · exact ends_of ends_5 (by omega) (by omega)
    by_cases c7 : k < 700
    · exact ends_of ends_6 (by omega) (by omega)
    by_cases c8 : k < 800
    · exact ends_of ends_7 (by omega) (by omega)
    by_cases c9 : k < 900
    · exact ends_of ends_8 (by omega) (by omega)
    · exact ends_of ends_9 (by omega) (by omega)
  unfold callV
  rw [e]
  rfl
def absI (i : Int) : Int := if i < 0 then -i else i
theorem gAbs_A {M : List MO} {i : Int} : gAbs M [.int i] = some (.int (absI i)) := rfl
theorem law_is (ns : List Int) (hl : ns.length ≤ 63) (hb : ∀ z ∈ ns, intBits z ≤ 1048576) : ∃ M', F_law_k14 [frD ns] tabs14 = some (.rt (.bl true) M') := by
  have h : ScrOk ns := ⟨hl, hb⟩
  obtain ⟨M1, e1⟩ := of_isT floors14
  have s := sides14
  rw [e1] at s
  obtain ⟨M2, e2⟩ := of_isT s
  have e2' : F__law_sides_right [] M1 = some (.rt (.bl true) M2) := e2
  obtain ⟨whole, hwh⟩ : ∃ w : Int, w = absI ns.sum := ⟨_, rfl⟩
  have i1 : fAsg (.nm 1) (eCall gAbs (aCons (eCall gSum (aCons (eSl (eVar 0) oNone (oSome (eC (.int 63)))) aNil)) aNil)) [some (frD ns), none] tabs14 = some (.nx [some (frD ns), some (.int whole)] tabs14) := by
    have e1 : ∀ M, asR M (frD ns) = some (ns.map D.int) := fun _ => rfl
    have gs : gSum tabs14 [.lst (ns.map D.int)] = some (.int ns.sum) := gSum_isD
    simp only [fAsg, eCall, aCons, aNil, eSl, eVar, oNone, oSome, eC, Option.bind_some, Option.bind_none, Option.map_some, Option.map_none, List.map_cons, List.map_nil, List.length_cons, List.length_nil, List.replicate_succ, List.replicate_zero, List.cons_append, List.nil_append, List.append_nil, List.getElem?_cons_zero, List.getElem?_cons_succ, List.set_cons_zero, List.set_cons_succ, Nat.reduceAdd, Nat.reduceSub, if_true, if_false, Bool.true_and, Bool.and_true, Bool.false_and, Bool.and_false, Bool.not_true, Bool.not_false, Bool.or_true, Bool.true_or, Bool.or_false, Bool.false_or, Bool.false_eq_true, reduceCtorEq, Bool.not_not, e1, cut_frD h.len, gs, gAbs_A, bindP, ← hwh]
  have m0 := Int.emod_nonneg whole (show (997 : Int) ≠ 0 by decide)
  have m1 := Int.emod_lt_of_pos whole (show (0 : Int) < 997 by decide)
  have k1 : ∀ env, eCallG F__law_floors_right_k14 aNil env tabs14 = some (.bl true, M1) := fun env => by
    unfold eCallG
    simp only [aNil, Option.bind_some, e1]
  have k3 : ∀ env, eCallG F__law_sides_right aNil env M1 = some (.bl true, M2) := fun env => by
    unfold eCallG
    simp only [aNil, Option.bind_some, e2']
  refine ⟨M2, ?_⟩
  have body : Fb_law_k14 [some (frD ns), none] tabs14 = some (.rt (.bl true) M2) := by
    unfold Fb_law_k14
    rw [fSeq, i1, Option.bind_some]
    simp only [fRet, eT, tAnd, tE, k1, k3, call1, eBin, eVar, eC, Option.bind_some, Option.bind_none, Option.map_some, Option.map_none, List.map_cons, List.map_nil, List.length_cons, List.length_nil, List.replicate_succ, List.replicate_zero, List.cons_append, List.nil_append, List.append_nil, List.getElem?_cons_zero, List.getElem?_cons_succ, List.set_cons_zero, List.set_cons_succ, Nat.reduceAdd, Nat.reduceSub, if_true, if_false, Bool.true_and, Bool.and_true, Bool.false_and, Bool.and_false, Bool.not_true, Bool.not_false, Bool.or_true, Bool.true_or, Bool.or_false, Bool.false_or, Bool.false_eq_true, reduceCtorEq, Bool.not_not, gMod_int (show (0 : Int) < 997 by decide), nl_int, ends14 m0 m1]
  show runFn 2 Fb_law_k14 [frD ns] tabs14 = _
  show (Fb_law_k14 [some (frD ns), none] tabs14).bind _ = _
  rw [body]
  rfl
end BL

namespace BL
open PySem L2 BX
set_option maxHeartbeats 4000000
def top (i : Nat) : Stmt := PySem.Challenge.pw_boxclose_k14_whole_again.main.body.getD i (.Pass ⟨0, 0, 0, 0⟩)
def clsAt (s : Stmt) (j : Nat) : Stmt := match s with
  | .ClassDef _ _ _ body _ _ _ _ _ _ _ => body.getD j (.Pass ⟨0, 0, 0, 0⟩)
  | _ => .Pass ⟨0, 0, 0, 0⟩
theorem all2 {α β : Type} {a c : α} {b d : β} {R : α × β → Prop} (h1 : R (a, b)) (h2 : R (c, d)) : ∀ z ∈ [(a, b), (c, d)], R z := fun z hz => by
  rcases List.mem_cons.mp hz with rfl | hz
  · exact h1
  · rcases List.mem_cons.mp hz with rfl | hz
    · exact h2
    · cases hz
theorem all2s {a b : Str} {R : Str → Prop} (h1 : R a) (h2 : R b) : ∀ z ∈ [a, b], R z := fun z hz => by
  rcases List.mem_cons.mp hz with rfl | hz
  · exact h1
  · rcases List.mem_cons.mp hz with rfl | hz
    · exact h2
    · cases hz
structure Bi (K : PySem.W.Frag) (w : World) (mg : Str → Option Value) : Prop where
  t_LEAST : ∃ d, mg "LEAST" = some (.ref d) ∧ KTab K w d [("chain", 3), ("ring", 4)]
  t_LEFT : ∃ d, mg "LEFT" = some (.ref d) ∧ KTab K w d [("chain", 2), ("ring", 4)]
  b_ValueError : mg "ValueError" = none
  b_abs : mg "abs" = none
  b_all : mg "all" = none
  b_any : mg "any" = none
  b_bool : mg "bool" = none
  b_enumerate : mg "enumerate" = none
  b_int : mg "int" = none
  b_isinstance : mg "isinstance" = none
  b_len : mg "len" = none
  b_list : mg "list" = none
  b_max : mg "max" = none
  b_range : mg "range" = none
  b_sorted : mg "sorted" = none
  b_str : mg "str" = none
  b_sum : mg "sum" = none
  b_tuple : mg "tuple" = none
  c_LONGEST : ∃ t, mg "LONGEST" = some (.int 1000 t)
  c_MOST_BOXES : ∃ t, mg "MOST_BOXES" = some (.int 9 t)
  c_MOST_PIECES : ∃ t, mg "MOST_PIECES" = some (.int 8 t)
  c_MOST_SIDES : ∃ t, mg "MOST_SIDES" = some (.int 12 t)
section
variable {P : Program} {w : World} {K : PySem.W.Frag} {mg : Str → Option Value} {base : Heap} {cls : Nat → Value}
abbrev s_is_whole : Stmt := top 14
theorem sc_is_whole : FnScope ["thing"] ["thing"] (defScope s_is_whole) := ⟨rfl, rfl, rfl, by decide +kernel, rfl, by decide +kernel, by decide +kernel⟩
theorem ok_is_whole {f : Addr} {fd : FuncData} (F : Fun K "is_whole" "is_whole" s_is_whole f fd) (B : Bi K w mg)  :
    FnOk P w K mg base CX0 1 f fd ["thing"] (spF ⟨P, w, K⟩ cls 1 F_is_whole) := by
  have nd := sc_is_whole.nd
  refine fn_ok F sc_is_whole (body := Fb_is_whole) fun cdv A outer s H E hr => ?_
  have hu : (A.deeper (PyProof.Rows.envOfC "is_whole" (defScope s_is_whole) s.heap.objs.size f cdv)).units + 66 < cLine := by have := hr.un; omega
  exact (sb_one (ss_ret (se_and (se_isi .int (se_var 0) B.b_isinstance B.b_int (by decide +kernel)) (se_last (se_not (se_isi .bl (se_var 0) B.b_isinstance B.b_bool (by decide +kernel)))))))
abbrev s_is_side : Stmt := top 15
theorem sc_is_side : FnScope ["thing", "many"] ["thing", "many"] (defScope s_is_side) := ⟨rfl, rfl, rfl, by decide +kernel, rfl, by decide +kernel, by decide +kernel⟩
theorem ok_is_side {f : Addr} {fd : FuncData} (F : Fun K "is_side" "is_side" s_is_side f fd) (B : Bi K w mg) (C_is_whole : Cal P w K mg base 1 "is_whole" ["thing"] (spF ⟨P, w, K⟩ cls 1 F_is_whole)) :
    FnOk P w K mg base CX0 2 f fd ["thing", "many"] (spF ⟨P, w, K⟩ cls 2 F_is_side) := by
  have nd := sc_is_side.nd
  refine fn_ok F sc_is_side (body := Fb_is_side) fun cdv A outer s H E hr => ?_
  have hu : (A.deeper (PyProof.Rows.envOfC "is_side" (defScope s_is_side) s.heap.objs.size f cdv)).units + 66 < cLine := by have := hr.un; omega
  exact (sb_cons (ss_if (SW.st (sw_or (st_not (st_val (se_isi .tup (se_var 0) B.b_isinstance B.b_tuple (by decide +kernel)))) (sw_or (st_ne hu (se_len B.b_len (se_var 0)) se_int) (sw_or (st_not (st_val (se_call C_is_whole [false] (san_cons (se_ix (se_var 0) se_int) san_nil) (hr.mono (by decide)) (by rfl)))) (sw_or1 (st_not (st_val (se_call C_is_whole [false] (san_cons (se_ix (se_var 0) se_int) san_nil) (hr.mono (by decide)) (by rfl))))))))) (sb_one (ss_ret se_bl)) sb_nil)
  (sb_one (ss_ret (se_leltlt hu (se_neg se_int) (se_ix (se_var 0) se_int) (se_ix (se_var 0) se_int) (se_var 1)))))
abbrev s_asked_net : Stmt := top 16
theorem sc_asked_net : FnScope ["net", "side", "at", "box"] ["net"] (defScope s_asked_net) := ⟨rfl, rfl, rfl, by decide +kernel, rfl, by decide +kernel, by decide +kernel⟩
theorem ok_asked_net {f : Addr} {fd : FuncData} (F : Fun K "asked_net" "asked_net" s_asked_net f fd) (B : Bi K w mg) (C_is_whole : Cal P w K mg base 1 "is_whole" ["thing"] (spF ⟨P, w, K⟩ cls 1 F_is_whole)) (C_is_side : Cal P w K mg base 2 "is_side" ["thing", "many"] (spF ⟨P, w, K⟩ cls 2 F_is_side)) :
    FnOk P w K mg base CX0 3 f fd ["net"] (spF ⟨P, w, K⟩ cls 1 F_asked_net) := by
  have nd := sc_asked_net.nd
  refine fn_ok F sc_asked_net (body := Fb_asked_net) fun cdv A outer s H E hr => ?_
  have hu : (A.deeper (PyProof.Rows.envOfC "asked_net" (defScope s_asked_net) s.heap.objs.size f cdv)).units + 66 < cLine := by have := hr.un; omega
  exact (sb_cons (ss_if (SW.st (sw_or (st_not (st_val (se_isi .tup (se_var 0) B.b_isinstance B.b_tuple (by decide +kernel)))) (sw_or (st_ne hu (se_len B.b_len (se_var 0)) se_int) (sw_or (st_not (st_val (se_call C_is_whole [false] (san_cons (se_ix (se_var 0) se_int) san_nil) (hr.mono (by decide)) (by rfl)))) (sw_or1 (st_not (st_lele hu se_int (se_ix (se_var 0) se_int) (se_gint (by rfl) B.c_MOST_BOXES)))))))) (sb_one ss_never) sb_nil)
  (sb_cons (ss_if (SW.st (sw_or (st_not (st_val (se_isi .lst (se_ix (se_var 0) se_int) B.b_isinstance B.b_list (by decide +kernel)))) (sw_or (st_gt hu (se_len B.b_len (se_ix (se_var 0) se_int)) (se_gint (by rfl) B.c_MOST_SIDES)) (sw_or1 (st_not (st_val (se_all rfl B.b_all (SN.se (sn_comp rfl nd (si_seq (se_ix (se_var 0) se_int)) (blkOk_by (own := [("side", 1)]) (by first | rfl | decide +kernel)) (by decide) ⟨fun _ _ _ _ _ => (sg_name (i := 1) nd), fun _ _ _ _ _ => sts_nil, fun _ _ _ _ _ => (se_call C_is_side [false, false] (san_cons (se_var 1) (san_cons (se_ix (se_var 0) se_int) san_nil)) (hr.mono (by decide)) (by rfl))⟩))))))))) (sb_one ss_never) sb_nil)
  (sb_cons (ss_if (st_val (se_any rfl B.b_any (SN.se (sn_comp rfl nd (si_range2 se_int (se_len B.b_len (se_ix (se_var 0) se_int)) (by rfl) B.b_range) (blkOk_by (own := [("at", 2)]) (by first | rfl | decide +kernel)) (by decide) ⟨fun _ _ _ _ _ => (sg_name (i := 2) nd), fun _ _ _ _ _ => sts_nil, fun _ _ _ _ _ => (se_gt hu (se_ix (se_ix (se_var 0) se_int) (se_sub (se_var 2) se_int)) (se_ix (se_ix (se_var 0) se_int) (se_var 2)))⟩)))) (sb_one ss_never) sb_nil)
  (sb_one (ss_if (st_not (st_val (se_all rfl B.b_all (SN.se (sn_comp rfl nd (si_range1 (se_ix (se_var 0) se_int) (by rfl) B.b_range) (blkOk_by (own := [("box", 3)]) (by first | rfl | decide +kernel)) (by decide) ⟨fun _ _ _ _ _ => (sg_name (i := 3) nd), fun _ _ _ _ _ => sts_nil, fun _ _ _ _ _ => (se_any rfl B.b_any (SN.se (sn_comp rfl nd (si_seq (se_ix (se_var 0) se_int)) (blkOk_by (own := [("side", 1)]) (by first | rfl | decide +kernel)) (by decide) ⟨fun _ _ _ _ _ => (sg_name (i := 1) nd), fun _ _ _ _ _ => sts_nil, fun _ _ _ _ _ => (se_in hu (se_var 3) (se_var 1))⟩)))⟩))))) (sb_one ss_never) sb_nil)))))
abbrev s_is_rising : Stmt := top 17
theorem sc_is_rising : FnScope ["thing", "many", "one", "at"] ["thing", "many"] (defScope s_is_rising) := ⟨rfl, rfl, rfl, by decide +kernel, rfl, by decide +kernel, by decide +kernel⟩
theorem ok_is_rising {f : Addr} {fd : FuncData} (F : Fun K "is_rising" "is_rising" s_is_rising f fd) (B : Bi K w mg) (C_is_whole : Cal P w K mg base 1 "is_whole" ["thing"] (spF ⟨P, w, K⟩ cls 1 F_is_whole)) :
    FnOk P w K mg base CX0 2 f fd ["thing", "many"] (spF ⟨P, w, K⟩ cls 2 F_is_rising) := by
  have nd := sc_is_rising.nd
  refine fn_ok F sc_is_rising (body := Fb_is_rising) fun cdv A outer s H E hr => ?_
  have hu : (A.deeper (PyProof.Rows.envOfC "is_rising" (defScope s_is_rising) s.heap.objs.size f cdv)).units + 66 < cLine := by have := hr.un; omega
  exact (sb_cons (ss_if (SW.st (sw_or (st_not (st_val (se_isi .lst (se_var 0) B.b_isinstance B.b_list (by decide +kernel)))) (sw_or1 (st_not (st_val (se_all rfl B.b_all (SN.se (sn_comp rfl nd (si_seq (se_var 0)) (blkOk_by (own := [("one", 2)]) (by first | rfl | decide +kernel)) (by decide) ⟨fun _ _ _ _ _ => (sg_name (i := 2) nd), fun _ _ _ _ _ => sts_nil, fun _ _ _ _ _ => (se_and (se_call C_is_whole [false] (san_cons (se_var 2) san_nil) (hr.mono (by decide)) (by rfl)) (se_last (se_lelt hu se_int (se_var 2) (se_var 1))))⟩)))))))) (sb_one (ss_ret se_bl)) sb_nil)
  (sb_one (ss_ret (se_all rfl B.b_all (SN.se (sn_comp rfl nd (si_range2 se_int (se_len B.b_len (se_var 0)) (by rfl) B.b_range) (blkOk_by (own := [("at", 3)]) (by first | rfl | decide +kernel)) (by decide) ⟨fun _ _ _ _ _ => (sg_name (i := 3) nd), fun _ _ _ _ _ => sts_nil, fun _ _ _ _ _ => (se_lt hu (se_ix (se_var 0) (se_sub (se_var 3) se_int)) (se_ix (se_var 0) (se_var 3)))⟩))))))
abbrev s_asked_drawn : Stmt := top 18
theorem sc_asked_drawn : FnScope ["net", "drawn"] ["net", "drawn"] (defScope s_asked_drawn) := ⟨rfl, rfl, rfl, by decide +kernel, rfl, by decide +kernel, by decide +kernel⟩
theorem ok_asked_drawn {f : Addr} {fd : FuncData} (F : Fun K "asked_drawn" "asked_drawn" s_asked_drawn f fd) (B : Bi K w mg) (C_asked_net : Cal P w K mg base 3 "asked_net" ["net"] (spF ⟨P, w, K⟩ cls 1 F_asked_net)) (C_is_rising : Cal P w K mg base 2 "is_rising" ["thing", "many"] (spF ⟨P, w, K⟩ cls 2 F_is_rising)) :
    FnOk P w K mg base CX0 4 f fd ["net", "drawn"] (spF ⟨P, w, K⟩ cls 2 F_asked_drawn) := by
  have nd := sc_asked_drawn.nd
  refine fn_ok F sc_asked_drawn (body := Fb_asked_drawn) fun cdv A outer s H E hr => ?_
  have hu : (A.deeper (PyProof.Rows.envOfC "asked_drawn" (defScope s_asked_drawn) s.heap.objs.size f cdv)).units + 66 < cLine := by have := hr.un; omega
  exact (sb_cons (ss_expr (se_call C_asked_net [false] (san_cons (se_var 0) san_nil) (hr.mono (by decide)) (by rfl)))
  (sb_one (ss_if (st_not (st_val (se_call C_is_rising [false, false] (san_cons (se_var 1) (san_cons (se_len B.b_len (se_ix (se_var 0) se_int)) san_nil)) (hr.mono (by decide)) (by rfl)))) (sb_one ss_never) sb_nil)))
abbrev s_open_of : Stmt := top 19
theorem sc_open_of : FnScope ["net", "drawn", "found", "at", "side", "box"] ["net", "drawn"] (defScope s_open_of) := ⟨rfl, rfl, rfl, by decide +kernel, rfl, by decide +kernel, by decide +kernel⟩
theorem ok_open_of {f : Addr} {fd : FuncData} (F : Fun K "open_of" "open_of" s_open_of f fd) (B : Bi K w mg)  :
    FnOk P w K mg base CX0 1 f fd ["net", "drawn"] (spF ⟨P, w, K⟩ cls 2 F_open_of) := by
  have nd := sc_open_of.nd
  refine fn_ok F sc_open_of (body := Fb_open_of) fun cdv A outer s H E hr => ?_
  have hu : (A.deeper (PyProof.Rows.envOfC "open_of" (defScope s_open_of) s.heap.objs.size f cdv)).units + 66 < cLine := by have := hr.un; omega
  exact (sb_cons (ss_setNew nd (sn_rep (se_lst (sa_cons se_int sa_nil)) (se_ix (se_var 0) se_int)))
  (sb_cons (ss_for PassesOwn.never rfl (si_enum (se_ix (se_var 0) se_int) (by rfl) B.b_enumerate) (sg_tup rfl (sgs_cons (i := 3) nd (sgs_cons (i := 4) nd sgs_nil))) (sb_one (ss_for PassesOwn.never rfl (si_seq (se_var 4)) (sg_name (i := 5) nd) (sb_one (ss_if (SW.st (sw_and (st_ge hu (se_var 5) se_int) (sw_and1 (st_nin hu (se_var 3) (se_var 1))))) (sb_one (ss_setIx (se_add (se_ix (se_var 2) (se_var 5)) se_int) (se_var 2) (se_var 5))) sb_nil)))))
  (sb_one (ss_ret (se_var 2)))))
abbrev s_opened : Stmt := top 20
theorem sc_opened : FnScope ["net", "drawn"] ["net", "drawn"] (defScope s_opened) := ⟨rfl, rfl, rfl, by decide +kernel, rfl, by decide +kernel, by decide +kernel⟩
theorem ok_opened {f : Addr} {fd : FuncData} (F : Fun K "opened" "opened" s_opened f fd) (B : Bi K w mg) (C_asked_drawn : Cal P w K mg base 4 "asked_drawn" ["net", "drawn"] (spF ⟨P, w, K⟩ cls 2 F_asked_drawn)) (C_open_of : Cal P w K mg base 1 "open_of" ["net", "drawn"] (spF ⟨P, w, K⟩ cls 2 F_open_of)) :
    FnOk P w K mg base CX0 5 f fd ["net", "drawn"] (spF ⟨P, w, K⟩ cls 2 F_opened) := by
  have nd := sc_opened.nd
  refine fn_ok F sc_opened (body := Fb_opened) fun cdv A outer s H E hr => ?_
  have hu : (A.deeper (PyProof.Rows.envOfC "opened" (defScope s_opened) s.heap.objs.size f cdv)).units + 66 < cLine := by have := hr.un; omega
  exact (sb_cons (ss_expr (se_call C_asked_drawn [false, false] (san_cons (se_var 0) (san_cons (se_var 1) san_nil)) (hr.mono (by decide)) (by rfl)))
  (sb_one (ss_retNew (sn_call C_open_of [false, false] (san_cons (se_var 0) (san_cons (se_var 1) san_nil)) (hr.mono (by decide)) (by rfl)))))
abbrev s_free_of : Stmt := top 21
theorem sc_free_of : FnScope ["net", "drawn", "at"] ["net", "drawn"] (defScope s_free_of) := ⟨rfl, rfl, rfl, by decide +kernel, rfl, by decide +kernel, by decide +kernel⟩
theorem ok_free_of {f : Addr} {fd : FuncData} (F : Fun K "free_of" "free_of" s_free_of f fd) (B : Bi K w mg)  :
    FnOk P w K mg base CX0 1 f fd ["net", "drawn"] (spF ⟨P, w, K⟩ cls 2 F_free_of) := by
  have nd := sc_free_of.nd
  refine fn_ok F sc_free_of (body := Fb_free_of) fun cdv A outer s H E hr => ?_
  have hu : (A.deeper (PyProof.Rows.envOfC "free_of" (defScope s_free_of) s.heap.objs.size f cdv)).units + 66 < cLine := by have := hr.un; omega
  exact (sb_one (ss_retNew (sn_comp rfl nd (si_range1 (se_len B.b_len (se_ix (se_var 0) se_int)) (by rfl) B.b_range) (blkOk_by (own := [("at", 2)]) (by first | rfl | decide +kernel)) (by decide) ⟨fun _ _ _ _ _ => (sg_name (i := 2) nd), fun _ _ _ _ _ => (sts_one (st_nin hu (se_var 2) (se_var 1))), fun _ _ _ _ _ => (se_var 2)⟩)))
abbrev s_drawn_on : Stmt := top 22
theorem sc_drawn_on : FnScope ["net", "drawn", "side", "more"] ["net", "drawn", "side"] (defScope s_drawn_on) := ⟨rfl, rfl, rfl, by decide +kernel, rfl, by decide +kernel, by decide +kernel⟩
theorem ok_drawn_on {f : Addr} {fd : FuncData} (F : Fun K "drawn_on" "drawn_on" s_drawn_on f fd) (B : Bi K w mg) (C_open_of : Cal P w K mg base 1 "open_of" ["net", "drawn"] (spF ⟨P, w, K⟩ cls 2 F_open_of)) :
    FnOk P w K mg base CX0 2 f fd ["net", "drawn", "side"] (spF ⟨P, w, K⟩ cls 3 F_drawn_on) := by
  have nd := sc_drawn_on.nd
  refine fn_ok F sc_drawn_on (body := Fb_drawn_on) fun cdv A outer s H E hr => ?_
  have hu : (A.deeper (PyProof.Rows.envOfC "drawn_on" (defScope s_drawn_on) s.heap.objs.size f cdv)).units + 66 < cLine := by have := hr.un; omega
  exact (sb_cons (ss_setNew nd (sn_sorted hu B.b_sorted (se_add (se_var 1) (se_lst (sa_cons (se_var 2) sa_nil)))))
  (sb_one (ss_retTupM (sm_E (se_var 3) (sm_E (se_sub (se_count (se_call C_open_of [false, true] (san_cons (se_var 0) (san_cons (se_var 3) san_nil)) (hr.mono (by decide)) (by rfl)) se_int) (se_count (se_call C_open_of [false, false] (san_cons (se_var 0) (san_cons (se_var 1) san_nil)) (hr.mono (by decide)) (by rfl)) se_int)) sm_nil)))))
abbrev s_floor_net : Stmt := top 23
theorem sc_floor_net : FnScope ["rows", "columns", "sides", "row", "column", "box"] ["rows", "columns"] (defScope s_floor_net) := ⟨rfl, rfl, rfl, by decide +kernel, rfl, by decide +kernel, by decide +kernel⟩
theorem ok_floor_net {f : Addr} {fd : FuncData} (F : Fun K "floor_net" "floor_net" s_floor_net f fd) (B : Bi K w mg) (C_is_whole : Cal P w K mg base 1 "is_whole" ["thing"] (spF ⟨P, w, K⟩ cls 1 F_is_whole)) :
    FnOk P w K mg base CX0 2 f fd ["rows", "columns"] (spF ⟨P, w, K⟩ cls 2 F_floor_net) := by
  have nd := sc_floor_net.nd
  refine fn_ok F sc_floor_net (body := Fb_floor_net) fun cdv A outer s H E hr => ?_
  have hu : (A.deeper (PyProof.Rows.envOfC "floor_net" (defScope s_floor_net) s.heap.objs.size f cdv)).units + 66 < cLine := by have := hr.un; omega
  exact (sb_cons (ss_if (SW.st (sw_or (st_not (st_val (se_call C_is_whole [false] (san_cons (se_var 0) san_nil) (hr.mono (by decide)) (by rfl)))) (sw_or (st_not (st_val (se_call C_is_whole [false] (san_cons (se_var 1) san_nil) (hr.mono (by decide)) (by rfl)))) (sw_or (st_lt hu (se_var 0) se_int) (sw_or (st_lt hu (se_var 1) se_int) (sw_or1 (st_gt hu (se_mul (se_var 0) (se_var 1)) se_int))))))) (sb_one ss_never) sb_nil)
  (sb_cons (ss_if (st_gt hu (se_add (se_mul (se_var 0) (se_add (se_var 1) se_int)) (se_mul (se_var 1) (se_add (se_var 0) se_int))) (se_gint (by rfl) B.c_MOST_SIDES)) (sb_one ss_never) sb_nil)
  (sb_cons (ss_setNew nd (sn_lst sa_nil))
  (sb_cons (ss_for PassesOwn.never rfl (si_range1 (se_var 0) (by rfl) B.b_range) (sg_name (i := 3) nd) (sb_one (ss_for PassesOwn.never rfl (si_range1 (se_var 1) (by rfl) B.b_range) (sg_name (i := 4) nd) (sb_cons (ss_set nd (se_add (se_mul (se_var 3) (se_var 1)) (se_var 4)))
  (sb_cons (ss_expr (se_extend (se_var 2) (se_mul (se_lst (sa_cons (se_tup (sa_cons (se_neg se_int) (sa_cons (se_var 5) sa_nil))) sa_nil)) (se_add (se_add (se_add (se_eq hu (se_var 3) se_int) (se_eq hu (se_var 3) (se_sub (se_var 0) se_int))) (se_eq hu (se_var 4) se_int)) (se_eq hu (se_var 4) (se_sub (se_var 1) se_int))))))
  (sb_cons (ss_if (st_lt hu (se_var 4) (se_sub (se_var 1) se_int)) (sb_one (ss_expr (se_append (se_var 2) (se_tup (sa_cons (se_var 5) (sa_cons (se_add (se_var 5) se_int) sa_nil)))))) sb_nil)
  (sb_one (ss_if (st_lt hu (se_var 3) (se_sub (se_var 0) se_int)) (sb_one (ss_expr (se_append (se_var 2) (se_tup (sa_cons (se_var 5) (sa_cons (se_add (se_var 5) (se_var 1)) sa_nil)))))) sb_nil))))))))
  (sb_one (ss_retTupM (sm_E (se_mul (se_var 0) (se_var 1)) (sm_N (sn_sorted hu B.b_sorted (se_var 2)) sm_nil))))))))
abbrev s_are_lengths : Stmt := top 29
theorem sc_are_lengths : FnScope ["thing", "least", "one", "at"] ["thing", "least"] (defScope s_are_lengths) := ⟨rfl, rfl, rfl, by decide +kernel, rfl, by decide +kernel, by decide +kernel⟩
theorem ok_are_lengths {f : Addr} {fd : FuncData} (F : Fun K "are_lengths" "are_lengths" s_are_lengths f fd) (B : Bi K w mg) (C_is_whole : Cal P w K mg base 1 "is_whole" ["thing"] (spF ⟨P, w, K⟩ cls 1 F_is_whole)) :
    FnOk P w K mg base CX0 2 f fd ["thing", "least"] (spF ⟨P, w, K⟩ cls 2 F_are_lengths) := by
  have nd := sc_are_lengths.nd
  refine fn_ok F sc_are_lengths (body := Fb_are_lengths) fun cdv A outer s H E hr => ?_
  have hu : (A.deeper (PyProof.Rows.envOfC "are_lengths" (defScope s_are_lengths) s.heap.objs.size f cdv)).units + 66 < cLine := by have := hr.un; omega
  exact (sb_cons (ss_if (SW.st (sw_or (st_not (st_val (se_isi .lst (se_var 0) B.b_isinstance B.b_list (by decide +kernel)))) (sw_or1 (st_not (st_val (se_all rfl B.b_all (SN.se (sn_comp rfl nd (si_seq (se_var 0)) (blkOk_by (own := [("one", 2)]) (by first | rfl | decide +kernel)) (by decide) ⟨fun _ _ _ _ _ => (sg_name (i := 2) nd), fun _ _ _ _ _ => sts_nil, fun _ _ _ _ _ => (se_and (se_call C_is_whole [false] (san_cons (se_var 2) san_nil) (hr.mono (by decide)) (by rfl)) (se_last (se_lele hu (se_var 1) (se_var 2) (se_gint (by rfl) B.c_LONGEST))))⟩)))))))) (sb_one (ss_ret se_bl)) sb_nil)
  (sb_one (ss_ret (se_all rfl B.b_all (SN.se (sn_comp rfl nd (si_range2 se_int (se_len B.b_len (se_var 0)) (by rfl) B.b_range) (blkOk_by (own := [("at", 3)]) (by first | rfl | decide +kernel)) (by decide) ⟨fun _ _ _ _ _ => (sg_name (i := 3) nd), fun _ _ _ _ _ => sts_nil, fun _ _ _ _ _ => (se_le hu (se_ix (se_var 0) (se_sub (se_var 3) se_int)) (se_ix (se_var 0) (se_var 3)))⟩))))))
abbrev s_asked_ending : Stmt := top 30
theorem sc_asked_ending : FnScope ["chains", "rings"] ["chains", "rings"] (defScope s_asked_ending) := ⟨rfl, rfl, rfl, by decide +kernel, rfl, by decide +kernel, by decide +kernel⟩
theorem ok_asked_ending {f : Addr} {fd : FuncData} (F : Fun K "asked_ending" "asked_ending" s_asked_ending f fd) (B : Bi K w mg) (C_are_lengths : Cal P w K mg base 2 "are_lengths" ["thing", "least"] (spF ⟨P, w, K⟩ cls 2 F_are_lengths)) :
    FnOk P w K mg base CX0 3 f fd ["chains", "rings"] (spF ⟨P, w, K⟩ cls 2 F_asked_ending) := by
  have nd := sc_asked_ending.nd
  refine fn_ok F sc_asked_ending (body := Fb_asked_ending) fun cdv A outer s H E hr => ?_
  have hu : (A.deeper (PyProof.Rows.envOfC "asked_ending" (defScope s_asked_ending) s.heap.objs.size f cdv)).units + 66 < cLine := by have := hr.un; omega
  exact (sb_cons (ss_if (SW.st (sw_or (st_not (st_val (se_call C_are_lengths [false, false] (san_cons (se_var 0) (san_cons (se_tab B.t_LEAST (by rfl) se_str) san_nil)) (hr.mono (by decide)) (by rfl)))) (sw_or1 (st_not (st_val (se_call C_are_lengths [false, false] (san_cons (se_var 1) (san_cons (se_tab B.t_LEAST (by rfl) se_str) san_nil)) (hr.mono (by decide)) (by rfl))))))) (sb_one ss_never) sb_nil)
  (sb_one (ss_if (st_gt hu (se_add (se_len B.b_len (se_var 0)) (se_len B.b_len (se_var 1))) (se_gint (by rfl) B.c_MOST_PIECES)) (sb_one ss_never) sb_nil)))
abbrev s_pieces_of : Stmt := top 31
theorem sc_pieces_of : FnScope ["chains", "rings", "found", "at", "length"] ["chains", "rings"] (defScope s_pieces_of) := ⟨rfl, rfl, rfl, by decide +kernel, rfl, by decide +kernel, by decide +kernel⟩
theorem ok_pieces_of {f : Addr} {fd : FuncData} (F : Fun K "pieces_of" "pieces_of" s_pieces_of f fd) (B : Bi K w mg)  :
    FnOk P w K mg base CX0 1 f fd ["chains", "rings"] (spF ⟨P, w, K⟩ cls 2 F_pieces_of) := by
  have nd := sc_pieces_of.nd
  refine fn_ok F sc_pieces_of (body := Fb_pieces_of) fun cdv A outer s H E hr => ?_
  have hu : (A.deeper (PyProof.Rows.envOfC "pieces_of" (defScope s_pieces_of) s.heap.objs.size f cdv)).units + 66 < cLine := by have := hr.un; omega
  exact (sb_cons (ss_setNew nd (sn_lst sa_nil))
  (sb_cons (ss_for PassesOwn.never rfl (si_enum (se_var 0) (by rfl) B.b_enumerate) (sg_tup rfl (sgs_cons (i := 3) nd (sgs_cons (i := 4) nd sgs_nil))) (sb_one (ss_if (SW.st (sw_or (st_eq hu (se_var 3) se_int) (sw_or1 (st_ne hu (se_ix (se_var 0) (se_sub (se_var 3) se_int)) (se_var 4))))) (sb_one (ss_expr (se_append (se_var 2) (se_tup (sa_cons se_str (sa_cons (se_var 4) (sa_cons (se_add (se_sl (se_var 0) so_none (so_some (se_var 3))) (se_sl (se_var 0) (so_some (se_add (se_var 3) se_int)) so_none)) (sa_cons (se_var 1) sa_nil)))))))) sb_nil)))
  (sb_cons (ss_for PassesOwn.never rfl (si_enum (se_var 1) (by rfl) B.b_enumerate) (sg_tup rfl (sgs_cons (i := 3) nd (sgs_cons (i := 4) nd sgs_nil))) (sb_one (ss_if (SW.st (sw_or (st_eq hu (se_var 3) se_int) (sw_or1 (st_ne hu (se_ix (se_var 1) (se_sub (se_var 3) se_int)) (se_var 4))))) (sb_one (ss_expr (se_append (se_var 2) (se_tup (sa_cons se_str (sa_cons (se_var 4) (sa_cons (se_var 0) (sa_cons (se_add (se_sl (se_var 1) so_none (so_some (se_var 3))) (se_sl (se_var 1) (so_some (se_add (se_var 3) se_int)) so_none)) sa_nil)))))))) sb_nil)))
  (sb_one (ss_ret (se_var 2))))))
abbrev s_taken_of : Stmt := top 32
theorem sc_taken_of : FnScope ["kind", "length", "rest"] ["kind", "length", "rest"] (defScope s_taken_of) := ⟨rfl, rfl, rfl, by decide +kernel, rfl, by decide +kernel, by decide +kernel⟩
theorem ok_taken_of {f : Addr} {fd : FuncData} (F : Fun K "taken_of" "taken_of" s_taken_of f fd) (B : Bi K w mg)  :
    FnOk P w K mg base CX0 1 f fd ["kind", "length", "rest"] (spF ⟨P, w, K⟩ cls 3 F_taken_of) := by
  have nd := sc_taken_of.nd
  refine fn_ok F sc_taken_of (body := Fb_taken_of) fun cdv A outer s H E hr => ?_
  have hu : (A.deeper (PyProof.Rows.envOfC "taken_of" (defScope s_taken_of) s.heap.objs.size f cdv)).units + 66 < cLine := by have := hr.un; omega
  exact (sb_one (ss_ret (se_max rfl B.b_max (sa_cons (se_add (se_var 1) (se_var 2)) (sa_cons (se_sub (se_sub (se_var 1) (se_mul se_int (se_tab B.t_LEFT (by rfl) (se_var 0)))) (se_var 2)) sa_nil)))))
abbrev s_ending_of : Stmt := top 33
theorem sc_ending_of : FnScope ["chains", "rings", "known", "key", "told", "kind", "length", "fewer", "others"] ["chains", "rings", "known"] (defScope s_ending_of) := ⟨rfl, rfl, rfl, by decide +kernel, rfl, by decide +kernel, by decide +kernel⟩
theorem ok_ending_of_step {f : Addr} {fd : FuncData} {k : Nat} {r : Fn} (hk : 1 ≤ k) (F : Fun K "ending_of" "ending_of" s_ending_of f fd) (B : Bi K w mg) (C_pieces_of : Cal P w K mg base 1 "pieces_of" ["chains", "rings"] (spF ⟨P, w, K⟩ cls 2 F_pieces_of)) (C_taken_of : Cal P w K mg base 1 "taken_of" ["kind", "length", "rest"] (spF ⟨P, w, K⟩ cls 3 F_taken_of)) (C_ending_of : Cal P w K mg base (k + 0) "ending_of" ["chains", "rings", "known"] (spF ⟨P, w, K⟩ cls 3 r)) :
    FnOk P w K mg base CX0 (k + 1) f fd ["chains", "rings", "known"] (spF ⟨P, w, K⟩ cls 3 (runFn 9 (Fb_ending_of r))) := by
  have nd := sc_ending_of.nd
  refine fn_ok F sc_ending_of (body := Fb_ending_of r) fun cdv A outer s H E hr => ?_
  have hu : (A.deeper (PyProof.Rows.envOfC "ending_of" (defScope s_ending_of) s.heap.objs.size f cdv)).units + 66 < cLine := by have := hr.un; omega
  exact (sb_cons (ss_set nd (se_tup (sa_cons (se_tuple B.b_tuple (se_var 0)) (sa_cons (se_tuple B.b_tuple (se_var 1)) sa_nil))))
  (sb_cons (ss_if (st_dnin hu (se_var 3) (se_var 2)) (sb_cons (ss_setNew nd (sn_lst sa_nil))
  (sb_cons (ss_for PassesOwn.never rfl (si_seq (se_call C_pieces_of [false, false] (san_cons (se_var 0) (san_cons (se_var 1) san_nil)) (hr.mono (by omega)) (by rfl))) (sg_tup rfl (sgs_cons (i := 5) nd (sgs_cons (i := 6) nd (sgs_cons (i := 7) nd (sgs_cons (i := 8) nd sgs_nil))))) (sb_one (ss_expr (se_append (se_var 4) (se_neg (se_call C_taken_of [false, false, false] (san_cons (se_var 5) (san_cons (se_var 6) (san_cons (se_call C_ending_of [false, false, true] (san_cons (se_var 7) (san_cons (se_var 8) (san_cons (se_var 2) san_nil))) (hr.mono (by omega)) (by rfl)) san_nil))) (hr.mono (by omega)) (by rfl)))))))
  (sb_one (ss_setD hu (se_if (st_ne hu (se_var 4) (se_lst sa_nil)) (se_max rfl B.b_max (sa_cons (se_var 4) sa_nil)) se_int) (se_var 2) (se_var 3))))) sb_nil)
  (sb_one (ss_ret (se_dget hu (se_var 2) (se_var 3))))))
theorem ok_ending_of {f_ending_of : Addr} {fd_ending_of : FuncData} (F_ending_of : Fun K "ending_of" "ending_of" s_ending_of f_ending_of fd_ending_of) (mk_ending_of : ∀ {k : Nat} {sp : Sp}, FnOk P w K mg base CX0 k f_ending_of fd_ending_of ["chains", "rings", "known"] sp → Cal P w K mg base k "ending_of" ["chains", "rings", "known"] sp) (B : Bi K w mg) (C_pieces_of : Cal P w K mg base 1 "pieces_of" ["chains", "rings"] (spF ⟨P, w, K⟩ cls 2 F_pieces_of)) (C_taken_of : Cal P w K mg base 1 "taken_of" ["kind", "length", "rest"] (spF ⟨P, w, K⟩ cls 3 F_taken_of)) : ∀ n : Nat, Cal P w K mg base (1 + 1 * n) "ending_of" ["chains", "rings", "known"] (spF ⟨P, w, K⟩ cls 3 (BL.F_ending_of n))
  | 0 => mk_ending_of (fn_ok (k := 0) F_ending_of sc_ending_of (body := fun _ _ => none) fun cdv A outer s H E hr => sb_never)
  | n + 1 => by
    have C_ending_of := ok_ending_of F_ending_of mk_ending_of B C_pieces_of C_taken_of n
    exact mk_ending_of (ok_ending_of_step (k := 1 + 1 * n) (by omega) F_ending_of B C_pieces_of C_taken_of C_ending_of)
abbrev s_ending : Stmt := top 34
theorem sc_ending : FnScope ["chains", "rings"] ["chains", "rings"] (defScope s_ending) := ⟨rfl, rfl, rfl, by decide +kernel, rfl, by decide +kernel, by decide +kernel⟩
theorem ok_ending {f : Addr} {fd : FuncData} (F : Fun K "ending" "ending" s_ending f fd) (B : Bi K w mg) (C_asked_ending : Cal P w K mg base 3 "asked_ending" ["chains", "rings"] (spF ⟨P, w, K⟩ cls 2 F_asked_ending)) (C_ending_of : Cal P w K mg base 21 "ending_of" ["chains", "rings", "known"] (spF ⟨P, w, K⟩ cls 3 (F_ending_of 20))) :
    FnOk P w K mg base CX0 22 f fd ["chains", "rings"] (spF ⟨P, w, K⟩ cls 2 F_ending) := by
  have nd := sc_ending.nd
  refine fn_ok F sc_ending (body := Fb_ending) fun cdv A outer s H E hr => ?_
  have hu : (A.deeper (PyProof.Rows.envOfC "ending" (defScope s_ending) s.heap.objs.size f cdv)).units + 66 < cLine := by have := hr.un; omega
  exact (sb_cons (ss_expr (se_call C_asked_ending [false, false] (san_cons (se_var 0) (san_cons (se_var 1) san_nil)) (hr.mono (by decide)) (by rfl)))
  (sb_one (ss_ret (se_callM C_ending_of [false, false, true] (smn_E (se_var 0) (smn_E (se_var 1) (smn_D smn_nil))) (hr.mono (by decide)) (by rfl)))))
abbrev s_openings : Stmt := top 35
theorem sc_openings : FnScope ["chains", "rings", "known", "found", "due", "kind", "length", "fewer", "others"] ["chains", "rings"] (defScope s_openings) := ⟨rfl, rfl, rfl, by decide +kernel, rfl, by decide +kernel, by decide +kernel⟩
theorem ok_openings {f : Addr} {fd : FuncData} (F : Fun K "openings" "openings" s_openings f fd) (B : Bi K w mg) (C_asked_ending : Cal P w K mg base 3 "asked_ending" ["chains", "rings"] (spF ⟨P, w, K⟩ cls 2 F_asked_ending)) (C_ending_of : Cal P w K mg base 21 "ending_of" ["chains", "rings", "known"] (spF ⟨P, w, K⟩ cls 3 (F_ending_of 20))) (C_pieces_of : Cal P w K mg base 1 "pieces_of" ["chains", "rings"] (spF ⟨P, w, K⟩ cls 2 F_pieces_of)) (C_taken_of : Cal P w K mg base 1 "taken_of" ["kind", "length", "rest"] (spF ⟨P, w, K⟩ cls 3 F_taken_of)) :
    FnOk P w K mg base CX0 22 f fd ["chains", "rings"] (spF ⟨P, w, K⟩ cls 2 F_openings) := by
  have nd := sc_openings.nd
  refine fn_ok F sc_openings (body := Fb_openings) fun cdv A outer s H E hr => ?_
  have hu : (A.deeper (PyProof.Rows.envOfC "openings" (defScope s_openings) s.heap.objs.size f cdv)).units + 66 < cLine := by have := hr.un; omega
  exact (sb_cons (ss_expr (se_call C_asked_ending [false, false] (san_cons (se_var 0) (san_cons (se_var 1) san_nil)) (hr.mono (by decide)) (by rfl)))
  (sb_cons (by first | exact ss_parM rfl nd (sm_D (sm_N (sn_lst sa_nil) sm_nil)) | exact ss_asgM rfl (sgs_cons (i := 2) nd (sgs_cons (i := 3) nd sgs_nil)) (sm_D (sm_N (sn_lst sa_nil) sm_nil)) (hes := ln_le (ln_D (ln_N ln_nil)) (by decide)))
  (sb_cons (ss_set nd (se_call C_ending_of [false, false, true] (san_cons (se_var 0) (san_cons (se_var 1) (san_cons (se_var 2) san_nil))) (hr.mono (by decide)) (by rfl)))
  (sb_cons (ss_for PassesOwn.never rfl (si_seq (se_call C_pieces_of [false, false] (san_cons (se_var 0) (san_cons (se_var 1) san_nil)) (hr.mono (by decide)) (by rfl))) (sg_tup rfl (sgs_cons (i := 5) nd (sgs_cons (i := 6) nd (sgs_cons (i := 7) nd (sgs_cons (i := 8) nd sgs_nil))))) (sb_one (ss_if (st_eq hu (se_neg (se_call C_taken_of [false, false, false] (san_cons (se_var 5) (san_cons (se_var 6) (san_cons (se_call C_ending_of [false, false, true] (san_cons (se_var 7) (san_cons (se_var 8) (san_cons (se_var 2) san_nil))) (hr.mono (by decide)) (by rfl)) san_nil))) (hr.mono (by decide)) (by rfl))) (se_var 4)) (sb_one (ss_expr (se_append (se_var 3) (se_tup (sa_cons (se_var 5) (sa_cons (se_var 6) sa_nil)))))) sb_nil)))
  (sb_one (ss_ret (se_var 3)))))))
abbrev s_reply : Stmt := top 36
theorem sc_reply : FnScope ["kind", "length", "chains", "rings", "rest", "every", "some"] ["kind", "length", "chains", "rings"] (defScope s_reply) := ⟨rfl, rfl, rfl, by decide +kernel, rfl, by decide +kernel, by decide +kernel⟩
theorem ok_reply {f : Addr} {fd : FuncData} (F : Fun K "reply" "reply" s_reply f fd) (B : Bi K w mg) (C_is_whole : Cal P w K mg base 1 "is_whole" ["thing"] (spF ⟨P, w, K⟩ cls 1 F_is_whole)) (C_asked_ending : Cal P w K mg base 3 "asked_ending" ["chains", "rings"] (spF ⟨P, w, K⟩ cls 2 F_asked_ending)) (C_ending_of : Cal P w K mg base 21 "ending_of" ["chains", "rings", "known"] (spF ⟨P, w, K⟩ cls 3 (F_ending_of 20))) :
    FnOk P w K mg base CX0 22 f fd ["kind", "length", "chains", "rings"] (spF ⟨P, w, K⟩ cls 4 F_reply) := by
  have nd := sc_reply.nd
  refine fn_ok F sc_reply (body := Fb_reply) fun cdv A outer s H E hr => ?_
  have hu : (A.deeper (PyProof.Rows.envOfC "reply" (defScope s_reply) s.heap.objs.size f cdv)).units + 66 < cLine := by have := hr.un; omega
  exact (sb_cons (ss_if (SW.st (sw_or (st_not (st_val (se_isi .str (se_var 0) B.b_isinstance B.b_str (by decide +kernel)))) (sw_or1 (st_tabNin B.t_LEAST (by rfl) (se_var 0))))) (sb_one ss_never) sb_nil)
  (sb_cons (ss_if (SW.st (sw_or (st_not (st_val (se_call C_is_whole [false] (san_cons (se_var 1) san_nil) (hr.mono (by decide)) (by rfl)))) (sw_or1 (st_not (st_lele hu (se_tab B.t_LEAST (by rfl) (se_var 0)) (se_var 1) (se_gint (by rfl) B.c_LONGEST)))))) (sb_one ss_never) sb_nil)
  (sb_cons (ss_expr (se_call C_asked_ending [false, false] (san_cons (se_var 2) (san_cons (se_var 3) san_nil)) (hr.mono (by decide)) (by rfl)))
  (sb_cons (ss_set nd (se_callM C_ending_of [false, false, true] (smn_E (se_var 2) (smn_E (se_var 3) (smn_D smn_nil))) (hr.mono (by decide)) (by rfl)))
  (sb_cons (ss_if (SW.st (sw_and (st_eq hu (se_var 2) (se_lst sa_nil)) (sw_and1 (st_eq hu (se_var 3) (se_lst sa_nil))))) (sb_one (ss_ret se_str)) sb_nil)
  (sb_cons (by first | exact ss_par rfl nd (sa_cons (se_add (se_var 1) (se_var 4)) (sa_cons (se_sub (se_sub (se_var 1) (se_mul se_int (se_tab B.t_LEFT (by rfl) (se_var 0)))) (se_var 4)) sa_nil)) | exact ss_asg (sg_tup rfl (sgs_cons (i := 5) nd (sgs_cons (i := 6) nd sgs_nil))) (se_tup (sa_cons (se_add (se_var 1) (se_var 4)) (sa_cons (se_sub (se_sub (se_var 1) (se_mul se_int (se_tab B.t_LEFT (by rfl) (se_var 0)))) (se_var 4)) sa_nil))))
  (sb_one (ss_ret (se_if (st_eq hu (se_var 5) (se_var 6)) se_str (se_if (st_gt hu (se_var 5) (se_var 6)) se_str se_str))))))))))
abbrev s_ending_net : Stmt := top 37
theorem sc_ending_net : FnScope ["chains", "rings", "sides", "box", "length", "at"] ["chains", "rings"] (defScope s_ending_net) := ⟨rfl, rfl, rfl, by decide +kernel, rfl, by decide +kernel, by decide +kernel⟩
theorem ok_ending_net {f : Addr} {fd : FuncData} (F : Fun K "ending_net" "ending_net" s_ending_net f fd) (B : Bi K w mg) (C_asked_ending : Cal P w K mg base 3 "asked_ending" ["chains", "rings"] (spF ⟨P, w, K⟩ cls 2 F_asked_ending)) :
    FnOk P w K mg base CX0 4 f fd ["chains", "rings"] (spF ⟨P, w, K⟩ cls 2 F_ending_net) := by
  have nd := sc_ending_net.nd
  refine fn_ok F sc_ending_net (body := Fb_ending_net) fun cdv A outer s H E hr => ?_
  have hu : (A.deeper (PyProof.Rows.envOfC "ending_net" (defScope s_ending_net) s.heap.objs.size f cdv)).units + 66 < cLine := by have := hr.un; omega
  exact (sb_cons (ss_expr (se_call C_asked_ending [false, false] (san_cons (se_var 0) (san_cons (se_var 1) san_nil)) (hr.mono (by decide)) (by rfl)))
  (sb_cons (by first | exact ss_parM rfl nd (sm_N (sn_lst sa_nil) (sm_E se_int sm_nil)) | exact ss_asgM rfl (sgs_cons (i := 2) nd (sgs_cons (i := 3) nd sgs_nil)) (sm_N (sn_lst sa_nil) (sm_E se_int sm_nil)) (hes := ln_le (ln_N (ln_E ln_nil)) (by decide)))
  (sb_cons (ss_for PassesOwn.never rfl (si_seq (se_var 0)) (sg_name (i := 4) nd) (sb_cons (ss_expr (se_append (se_var 2) (se_tup (sa_cons (se_neg se_int) (sa_cons (se_var 3) sa_nil)))))
  (sb_cons (ss_expr (se_extend (se_var 2) (SN.se (sn_comp rfl nd (si_range1 (se_sub (se_var 4) se_int) (by rfl) B.b_range) (blkOk_by (own := [("at", 5)]) (by first | rfl | decide +kernel)) (by decide) ⟨fun _ _ _ _ _ => (sg_name (i := 5) nd), fun _ _ _ _ _ => sts_nil, fun _ _ _ _ _ => (se_tup (sa_cons (se_add (se_var 3) (se_var 5)) (sa_cons (se_add (se_add (se_var 3) (se_var 5)) se_int) sa_nil)))⟩))))
  (sb_cons (ss_expr (se_append (se_var 2) (se_tup (sa_cons (se_neg se_int) (sa_cons (se_sub (se_add (se_var 3) (se_var 4)) se_int) sa_nil)))))
  (sb_one (ss_set nd (se_add (se_var 3) (se_var 4))))))))
  (sb_cons (ss_for PassesOwn.never rfl (si_seq (se_var 1)) (sg_name (i := 4) nd) (sb_cons (ss_expr (se_extend (se_var 2) (SN.se (sn_comp rfl nd (si_range1 (se_sub (se_var 4) se_int) (by rfl) B.b_range) (blkOk_by (own := [("at", 5)]) (by first | rfl | decide +kernel)) (by decide) ⟨fun _ _ _ _ _ => (sg_name (i := 5) nd), fun _ _ _ _ _ => sts_nil, fun _ _ _ _ _ => (se_tup (sa_cons (se_add (se_var 3) (se_var 5)) (sa_cons (se_add (se_add (se_var 3) (se_var 5)) se_int) sa_nil)))⟩))))
  (sb_cons (ss_expr (se_append (se_var 2) (se_tup (sa_cons (se_var 3) (sa_cons (se_sub (se_add (se_var 3) (se_var 4)) se_int) sa_nil)))))
  (sb_one (ss_set nd (se_add (se_var 3) (se_var 4)))))))
  (sb_cons (ss_if (SW.st (sw_or (st_eq hu (se_var 3) se_int) (sw_or (st_gt hu (se_var 3) se_int) (sw_or1 (st_gt hu (se_len B.b_len (se_var 2)) se_int))))) (sb_one (ss_ret se_non)) sb_nil)
  (sb_one (ss_retTupM (sm_E (se_var 3) (sm_N (sn_sorted hu B.b_sorted (se_var 2)) sm_nil)))))))))
abbrev s_side_worth : Stmt := top 40
theorem sc_side_worth : FnScope ["net", "drawn", "side", "known", "more", "many", "rest"] ["net", "drawn", "side", "known"] (defScope s_side_worth) := ⟨rfl, rfl, rfl, by decide +kernel, rfl, by decide +kernel, by decide +kernel⟩
theorem ok_side_worth {f : Addr} {fd : FuncData} {k : Nat} {r : Fn} (hk : 2 ≤ k) (F : Fun K "side_worth" "side_worth" s_side_worth f fd) (B : Bi K w mg) (C_drawn_on : Cal P w K mg base 2 "drawn_on" ["net", "drawn", "side"] (spF ⟨P, w, K⟩ cls 3 F_drawn_on)) (C_worth_of : Cal P w K mg base (k + 0) "worth_of" ["net", "drawn", "known"] (spF ⟨P, w, K⟩ cls 3 r)) :
    FnOk P w K mg base CX0 (k + 1) f fd ["net", "drawn", "side", "known"] (spF ⟨P, w, K⟩ cls 4 (F_side_worth r)) := by
  have nd := sc_side_worth.nd
  refine fn_ok F sc_side_worth (body := Fb_side_worth r) fun cdv A outer s H E hr => ?_
  have hu : (A.deeper (PyProof.Rows.envOfC "side_worth" (defScope s_side_worth) s.heap.objs.size f cdv)).units + 66 < cLine := by have := hr.un; omega
  exact (sb_cons (ss_asg (sg_tup rfl (sgs_cons (i := 4) nd (sgs_cons (i := 5) nd sgs_nil))) (se_call C_drawn_on [false, false, false] (san_cons (se_var 0) (san_cons (se_var 1) (san_cons (se_var 2) san_nil))) (hr.mono (by omega)) (by rfl)))
  (sb_cons (ss_set nd (se_call C_worth_of [false, false, true] (san_cons (se_var 0) (san_cons (se_var 4) (san_cons (se_var 3) san_nil))) (hr.mono (by omega)) (by rfl)))
  (sb_one (ss_ret (se_if (st_gt hu (se_var 5) se_int) (se_add (se_var 5) (se_var 6)) (se_neg (se_var 6)))))))
abbrev s_worth_of : Stmt := top 39
theorem sc_worth_of : FnScope ["net", "drawn", "known", "key", "told", "side"] ["net", "drawn", "known"] (defScope s_worth_of) := ⟨rfl, rfl, rfl, by decide +kernel, rfl, by decide +kernel, by decide +kernel⟩
theorem ok_worth_of_step {f : Addr} {fd : FuncData} {k : Nat} {r : Fn} (hk : 2 ≤ k) (F : Fun K "worth_of" "worth_of" s_worth_of f fd) (B : Bi K w mg) (C_free_of : Cal P w K mg base 1 "free_of" ["net", "drawn"] (spF ⟨P, w, K⟩ cls 2 F_free_of)) (C_side_worth : Cal P w K mg base (k + 1) "side_worth" ["net", "drawn", "side", "known"] (spF ⟨P, w, K⟩ cls 4 (F_side_worth r))) :
    FnOk P w K mg base CX0 (k + 2) f fd ["net", "drawn", "known"] (spF ⟨P, w, K⟩ cls 3 (runFn 6 (Fb_worth_of r))) := by
  have nd := sc_worth_of.nd
  refine fn_ok F sc_worth_of (body := Fb_worth_of r) fun cdv A outer s H E hr => ?_
  have hu : (A.deeper (PyProof.Rows.envOfC "worth_of" (defScope s_worth_of) s.heap.objs.size f cdv)).units + 66 < cLine := by have := hr.un; omega
  exact (sb_cons (ss_set nd (se_tuple B.b_tuple (se_var 1)))
  (sb_cons (ss_if (st_dnin hu (se_var 3) (se_var 2)) (sb_cons (by first | exact ss_setLc rfl nd (si_seq (se_call C_free_of [false, false] (san_cons (se_var 0) (san_cons (se_var 1) san_nil)) (hr.mono (by omega)) (by rfl))) (blkOk_by (own := [("side", 5)]) (by first | rfl | decide +kernel)) (by decide) ⟨fun _ _ _ _ _ => (sg_name (i := 5) nd), fun _ _ _ _ _ => sts_nil, fun _ _ _ _ _ => (se_call C_side_worth [false, false, false, true] (san_cons (se_var 0) (san_cons (se_var 1) (san_cons (se_var 5) (san_cons (se_var 2) san_nil)))) (hr.mono (by omega)) (by rfl))⟩ | exact ss_set nd (SN.se (sn_comp rfl nd (si_seq (se_call C_free_of [false, false] (san_cons (se_var 0) (san_cons (se_var 1) san_nil)) (hr.mono (by omega)) (by rfl))) (blkOk_by (own := [("side", 5)]) (by first | rfl | decide +kernel)) (by decide) ⟨fun _ _ _ _ _ => (sg_name (i := 5) nd), fun _ _ _ _ _ => sts_nil, fun _ _ _ _ _ => (se_call C_side_worth [false, false, false, true] (san_cons (se_var 0) (san_cons (se_var 1) (san_cons (se_var 5) (san_cons (se_var 2) san_nil)))) (hr.mono (by omega)) (by rfl))⟩)))
  (sb_one (ss_setD hu (se_if (st_ne hu (se_var 4) (se_lst sa_nil)) (se_max rfl B.b_max (sa_cons (se_var 4) sa_nil)) se_int) (se_var 2) (se_var 3)))) sb_nil)
  (sb_one (ss_ret (se_dget hu (se_var 2) (se_var 3))))))
theorem ok_worth_of {f_side_worth : Addr} {fd_side_worth : FuncData} (F_side_worth : Fun K "side_worth" "side_worth" s_side_worth f_side_worth fd_side_worth) (mk_side_worth : ∀ {k : Nat} {sp : Sp}, FnOk P w K mg base CX0 k f_side_worth fd_side_worth ["net", "drawn", "side", "known"] sp → Cal P w K mg base k "side_worth" ["net", "drawn", "side", "known"] sp) {f_worth_of : Addr} {fd_worth_of : FuncData} (F_worth_of : Fun K "worth_of" "worth_of" s_worth_of f_worth_of fd_worth_of) (mk_worth_of : ∀ {k : Nat} {sp : Sp}, FnOk P w K mg base CX0 k f_worth_of fd_worth_of ["net", "drawn", "known"] sp → Cal P w K mg base k "worth_of" ["net", "drawn", "known"] sp) (B : Bi K w mg) (C_free_of : Cal P w K mg base 1 "free_of" ["net", "drawn"] (spF ⟨P, w, K⟩ cls 2 F_free_of)) (C_drawn_on : Cal P w K mg base 2 "drawn_on" ["net", "drawn", "side"] (spF ⟨P, w, K⟩ cls 3 F_drawn_on)) : ∀ n : Nat, Cal P w K mg base (2 + 2 * n) "worth_of" ["net", "drawn", "known"] (spF ⟨P, w, K⟩ cls 3 (BL.F_worth_of n))
  | 0 => mk_worth_of (fn_ok (k := 1) F_worth_of sc_worth_of (body := fun _ _ => none) fun cdv A outer s H E hr => sb_never)
  | n + 1 => by
    have C_worth_of := ok_worth_of F_side_worth mk_side_worth F_worth_of mk_worth_of B C_free_of C_drawn_on n
    have C_side_worth := mk_side_worth (ok_side_worth (k := 2 + 2 * n) (by omega) F_side_worth B C_drawn_on C_worth_of)
    exact mk_worth_of (ok_worth_of_step (k := 2 + 2 * n) (by omega) F_worth_of B C_free_of C_side_worth)
abbrev s_worth : Stmt := top 41
theorem sc_worth : FnScope ["net", "drawn"] ["net", "drawn"] (defScope s_worth) := ⟨rfl, rfl, rfl, by decide +kernel, rfl, by decide +kernel, by decide +kernel⟩
theorem ok_worth {f : Addr} {fd : FuncData} (F : Fun K "worth" "worth" s_worth f fd) (B : Bi K w mg) (C_asked_drawn : Cal P w K mg base 4 "asked_drawn" ["net", "drawn"] (spF ⟨P, w, K⟩ cls 2 F_asked_drawn)) (C_worth_of : Cal P w K mg base 42 "worth_of" ["net", "drawn", "known"] (spF ⟨P, w, K⟩ cls 3 (F_worth_of 20))) :
    FnOk P w K mg base CX0 43 f fd ["net", "drawn"] (spF ⟨P, w, K⟩ cls 2 F_worth) := by
  have nd := sc_worth.nd
  refine fn_ok F sc_worth (body := Fb_worth) fun cdv A outer s H E hr => ?_
  have hu : (A.deeper (PyProof.Rows.envOfC "worth" (defScope s_worth) s.heap.objs.size f cdv)).units + 66 < cLine := by have := hr.un; omega
  exact (sb_cons (ss_expr (se_call C_asked_drawn [false, false] (san_cons (se_var 0) (san_cons (se_var 1) san_nil)) (hr.mono (by decide)) (by rfl)))
  (sb_one (ss_ret (se_callM C_worth_of [false, false, true] (smn_E (se_var 0) (smn_E (se_var 1) (smn_D smn_nil))) (hr.mono (by decide)) (by rfl)))))
abbrev s_best_of : Stmt := top 42
theorem sc_best_of : FnScope ["net", "drawn", "known", "due", "side"] ["net", "drawn", "known"] (defScope s_best_of) := ⟨rfl, rfl, rfl, by decide +kernel, rfl, by decide +kernel, by decide +kernel⟩
theorem ok_best_of {f : Addr} {fd : FuncData} (F : Fun K "best_of" "best_of" s_best_of f fd) (B : Bi K w mg) (C_worth_of : Cal P w K mg base 42 "worth_of" ["net", "drawn", "known"] (spF ⟨P, w, K⟩ cls 3 (F_worth_of 20))) (C_free_of : Cal P w K mg base 1 "free_of" ["net", "drawn"] (spF ⟨P, w, K⟩ cls 2 F_free_of)) (C_side_worth : Cal P w K mg base 43 "side_worth" ["net", "drawn", "side", "known"] (spF ⟨P, w, K⟩ cls 4 (F_side_worth (F_worth_of 20)))) :
    FnOk P w K mg base CX0 44 f fd ["net", "drawn", "known"] (spF ⟨P, w, K⟩ cls 3 F_best_of) := by
  have nd := sc_best_of.nd
  refine fn_ok F sc_best_of (body := Fb_best_of) fun cdv A outer s H E hr => ?_
  have hu : (A.deeper (PyProof.Rows.envOfC "best_of" (defScope s_best_of) s.heap.objs.size f cdv)).units + 66 < cLine := by have := hr.un; omega
  exact (sb_cons (ss_set nd (se_call C_worth_of [false, false, true] (san_cons (se_var 0) (san_cons (se_var 1) (san_cons (se_var 2) san_nil))) (hr.mono (by decide)) (by rfl)))
  (sb_one (ss_retNew (sn_comp rfl nd (si_seq (se_call C_free_of [false, false] (san_cons (se_var 0) (san_cons (se_var 1) san_nil)) (hr.mono (by decide)) (by rfl))) (blkOk_by (own := [("side", 4)]) (by first | rfl | decide +kernel)) (by decide) ⟨fun _ _ _ _ _ => (sg_name (i := 4) nd), fun _ _ _ _ _ => (sts_one (st_eq hu (se_call C_side_worth [false, false, false, true] (san_cons (se_var 0) (san_cons (se_var 1) (san_cons (se_var 4) (san_cons (se_var 2) san_nil)))) (hr.mono (by decide)) (by rfl)) (se_var 3))), fun _ _ _ _ _ => (se_var 4)⟩))))
abbrev s_best : Stmt := top 43
theorem sc_best : FnScope ["net", "drawn"] ["net", "drawn"] (defScope s_best) := ⟨rfl, rfl, rfl, by decide +kernel, rfl, by decide +kernel, by decide +kernel⟩
theorem ok_best {f : Addr} {fd : FuncData} (F : Fun K "best" "best" s_best f fd) (B : Bi K w mg) (C_asked_drawn : Cal P w K mg base 4 "asked_drawn" ["net", "drawn"] (spF ⟨P, w, K⟩ cls 2 F_asked_drawn)) (C_best_of : Cal P w K mg base 44 "best_of" ["net", "drawn", "known"] (spF ⟨P, w, K⟩ cls 3 F_best_of)) :
    FnOk P w K mg base CX0 45 f fd ["net", "drawn"] (spF ⟨P, w, K⟩ cls 2 F_best) := by
  have nd := sc_best.nd
  refine fn_ok F sc_best (body := Fb_best) fun cdv A outer s H E hr => ?_
  have hu : (A.deeper (PyProof.Rows.envOfC "best" (defScope s_best) s.heap.objs.size f cdv)).units + 66 < cLine := by have := hr.un; omega
  exact (sb_cons (ss_expr (se_call C_asked_drawn [false, false] (san_cons (se_var 0) (san_cons (se_var 1) san_nil)) (hr.mono (by decide)) (by rfl)))
  (sb_one (ss_retNew (sn_callM C_best_of [false, false, true] (smn_E (se_var 0) (smn_E (se_var 1) (smn_D smn_nil))) (hr.mono (by decide)) (by rfl)))))
abbrev s_plays_of : Stmt := top 45
theorem sc_plays_of : FnScope ["net", "drawn", "known", "counted", "key", "sides", "told", "side"] ["net", "drawn", "known", "counted"] (defScope s_plays_of) := ⟨rfl, rfl, rfl, by decide +kernel, rfl, by decide +kernel, by decide +kernel⟩
theorem ok_plays_of_step {f : Addr} {fd : FuncData} {k : Nat} {r : Fn} (hk : 44 ≤ k) (F : Fun K "plays_of" "plays_of" s_plays_of f fd) (B : Bi K w mg) (C_best_of : Cal P w K mg base 44 "best_of" ["net", "drawn", "known"] (spF ⟨P, w, K⟩ cls 3 F_best_of)) (C_plays_of : Cal P w K mg base (k + 0) "plays_of" ["net", "drawn", "known", "counted"] (spF ⟨P, w, K⟩ cls 4 r)) :
    FnOk P w K mg base CX0 (k + 1) f fd ["net", "drawn", "known", "counted"] (spF ⟨P, w, K⟩ cls 4 (runFn 8 (Fb_plays_of r))) := by
  have nd := sc_plays_of.nd
  refine fn_ok F sc_plays_of (body := Fb_plays_of r) fun cdv A outer s H E hr => ?_
  have hu : (A.deeper (PyProof.Rows.envOfC "plays_of" (defScope s_plays_of) s.heap.objs.size f cdv)).units + 66 < cLine := by have := hr.un; omega
  exact (sb_cons (ss_set nd (se_tuple B.b_tuple (se_var 1)))
  (sb_cons (ss_if (st_dnin hu (se_var 4) (se_var 3)) (sb_cons (ss_set nd (se_call C_best_of [false, false, true] (san_cons (se_var 0) (san_cons (se_var 1) (san_cons (se_var 2) san_nil))) (hr.mono (by omega)) (by rfl)))
  (sb_cons (by first | exact ss_setLc rfl nd (si_seq (se_var 5)) (blkOk_by (own := [("side", 7)]) (by first | rfl | decide +kernel)) (by decide) ⟨fun _ _ _ _ _ => (sg_name (i := 7) nd), fun _ _ _ _ _ => sts_nil, fun _ _ _ _ _ => (se_call C_plays_of [false, false, true, true] (san_cons (se_var 0) (san_cons (se_sorted hu B.b_sorted (se_add (se_var 1) (se_lst (sa_cons (se_var 7) sa_nil)))) (san_cons (se_var 2) (san_cons (se_var 3) san_nil)))) (hr.mono (by omega)) (by rfl))⟩ | exact ss_set nd (SN.se (sn_comp rfl nd (si_seq (se_var 5)) (blkOk_by (own := [("side", 7)]) (by first | rfl | decide +kernel)) (by decide) ⟨fun _ _ _ _ _ => (sg_name (i := 7) nd), fun _ _ _ _ _ => sts_nil, fun _ _ _ _ _ => (se_call C_plays_of [false, false, true, true] (san_cons (se_var 0) (san_cons (se_sorted hu B.b_sorted (se_add (se_var 1) (se_lst (sa_cons (se_var 7) sa_nil)))) (san_cons (se_var 2) (san_cons (se_var 3) san_nil)))) (hr.mono (by omega)) (by rfl))⟩)))
  (sb_one (ss_setD hu (se_if (st_ne hu (se_var 6) (se_lst sa_nil)) (se_sum rfl B.b_sum (se_var 6)) se_int) (se_var 3) (se_var 4))))) sb_nil)
  (sb_one (ss_ret (se_dget hu (se_var 3) (se_var 4))))))
theorem ok_plays_of {f_plays_of : Addr} {fd_plays_of : FuncData} (F_plays_of : Fun K "plays_of" "plays_of" s_plays_of f_plays_of fd_plays_of) (mk_plays_of : ∀ {k : Nat} {sp : Sp}, FnOk P w K mg base CX0 k f_plays_of fd_plays_of ["net", "drawn", "known", "counted"] sp → Cal P w K mg base k "plays_of" ["net", "drawn", "known", "counted"] sp) (B : Bi K w mg) (C_best_of : Cal P w K mg base 44 "best_of" ["net", "drawn", "known"] (spF ⟨P, w, K⟩ cls 3 F_best_of)) : ∀ n : Nat, Cal P w K mg base (44 + 1 * n) "plays_of" ["net", "drawn", "known", "counted"] (spF ⟨P, w, K⟩ cls 4 (BL.F_plays_of n))
  | 0 => mk_plays_of (fn_ok (k := 43) F_plays_of sc_plays_of (body := fun _ _ => none) fun cdv A outer s H E hr => sb_never)
  | n + 1 => by
    have C_plays_of := ok_plays_of F_plays_of mk_plays_of B C_best_of n
    exact mk_plays_of (ok_plays_of_step (k := 44 + 1 * n) (by omega) F_plays_of B C_best_of C_plays_of)
abbrev s_best_plays : Stmt := top 46
theorem sc_best_plays : FnScope ["net", "drawn"] ["net", "drawn"] (defScope s_best_plays) := ⟨rfl, rfl, rfl, by decide +kernel, rfl, by decide +kernel, by decide +kernel⟩
theorem ok_best_plays {f : Addr} {fd : FuncData} (F : Fun K "best_plays" "best_plays" s_best_plays f fd) (B : Bi K w mg) (C_asked_drawn : Cal P w K mg base 4 "asked_drawn" ["net", "drawn"] (spF ⟨P, w, K⟩ cls 2 F_asked_drawn)) (C_plays_of : Cal P w K mg base 64 "plays_of" ["net", "drawn", "known", "counted"] (spF ⟨P, w, K⟩ cls 4 (F_plays_of 20))) :
    FnOk P w K mg base CX0 65 f fd ["net", "drawn"] (spF ⟨P, w, K⟩ cls 2 F_best_plays) := by
  have nd := sc_best_plays.nd
  refine fn_ok F sc_best_plays (body := Fb_best_plays) fun cdv A outer s H E hr => ?_
  have hu : (A.deeper (PyProof.Rows.envOfC "best_plays" (defScope s_best_plays) s.heap.objs.size f cdv)).units + 66 < cLine := by have := hr.un; omega
  exact (sb_cons (ss_expr (se_call C_asked_drawn [false, false] (san_cons (se_var 0) (san_cons (se_var 1) san_nil)) (hr.mono (by decide)) (by rfl)))
  (sb_one (ss_ret (se_callM C_plays_of [false, false, true, true] (smn_E (se_var 0) (smn_E (se_var 1) (smn_D (smn_D smn_nil)))) (hr.mono (by decide)) (by rfl)))))
abbrev s_play_by : Stmt := top 47
theorem sc_play_by : FnScope ["net", "drawn", "number", "known", "counted", "here", "found", "side", "there", "many"] ["net", "drawn", "number"] (defScope s_play_by) := ⟨rfl, rfl, rfl, by decide +kernel, rfl, by decide +kernel, by decide +kernel⟩
theorem ok_play_by {f : Addr} {fd : FuncData} (F : Fun K "play_by" "play_by" s_play_by f fd) (B : Bi K w mg) (C_asked_drawn : Cal P w K mg base 4 "asked_drawn" ["net", "drawn"] (spF ⟨P, w, K⟩ cls 2 F_asked_drawn)) (C_is_whole : Cal P w K mg base 1 "is_whole" ["thing"] (spF ⟨P, w, K⟩ cls 1 F_is_whole)) (C_plays_of : Cal P w K mg base 64 "plays_of" ["net", "drawn", "known", "counted"] (spF ⟨P, w, K⟩ cls 4 (F_plays_of 20))) (C_best_of : Cal P w K mg base 44 "best_of" ["net", "drawn", "known"] (spF ⟨P, w, K⟩ cls 3 F_best_of)) :
    FnOk P w K mg base CX0 65 f fd ["net", "drawn", "number"] (spF ⟨P, w, K⟩ cls 3 F_play_by) := by
  have nd := sc_play_by.nd
  refine fn_ok F sc_play_by (body := Fb_play_by) fun cdv A outer s H E hr => ?_
  have hu : (A.deeper (PyProof.Rows.envOfC "play_by" (defScope s_play_by) s.heap.objs.size f cdv)).units + 66 < cLine := by have := hr.un; omega
  exact (sb_cons (ss_expr (se_call C_asked_drawn [false, false] (san_cons (se_var 0) (san_cons (se_var 1) san_nil)) (hr.mono (by decide)) (by rfl)))
  (sb_cons (by first | exact ss_parM rfl nd (sm_D (sm_D sm_nil)) | exact ss_asgM rfl (sgs_cons (i := 3) nd (sgs_cons (i := 4) nd sgs_nil)) (sm_D (sm_D sm_nil)) (hes := ln_le (ln_D (ln_D ln_nil)) (by decide)))
  (sb_cons (ss_if (SW.st (sw_or (st_not (st_val (se_call C_is_whole [false] (san_cons (se_var 2) san_nil) (hr.mono (by decide)) (by rfl)))) (sw_or1 (st_not (st_lelt hu se_int (se_var 2) (se_call C_plays_of [false, false, true, true] (san_cons (se_var 0) (san_cons (se_var 1) (san_cons (se_var 3) (san_cons (se_var 4) san_nil)))) (hr.mono (by decide)) (by rfl))))))) (sb_one ss_never) sb_nil)
  (sb_cons (by first | exact ss_parM rfl nd (sm_E (se_list B.b_list (se_var 1)) (sm_N (sn_lst sa_nil) sm_nil)) | exact ss_asgM rfl (sgs_cons (i := 5) nd (sgs_cons (i := 6) nd sgs_nil)) (sm_E (se_list B.b_list (se_var 1)) (sm_N (sn_lst sa_nil) sm_nil)) (hes := ln_le (ln_E (ln_N ln_nil)) (by decide)))
  (sb_cons (ss_while (n := 10000) PassesOwn.never (st_lt hu (se_len B.b_len (se_var 5)) (se_len B.b_len (se_ix (se_var 0) se_int))) (sb_one (ss_for PassesOwn.never rfl (si_seq (se_call C_best_of [false, false, true] (san_cons (se_var 0) (san_cons (se_var 5) (san_cons (se_var 3) san_nil))) (hr.mono (by decide)) (by rfl))) (sg_name (i := 7) nd) (sb_cons (ss_set nd (se_sorted hu B.b_sorted (se_add (se_var 5) (se_lst (sa_cons (se_var 7) sa_nil)))))
  (sb_cons (ss_set nd (se_call C_plays_of [false, false, true, true] (san_cons (se_var 0) (san_cons (se_var 8) (san_cons (se_var 3) (san_cons (se_var 4) san_nil)))) (hr.mono (by decide)) (by rfl)))
  (sb_cons (ss_if (st_lt hu (se_var 2) (se_var 9)) (sb_cons (ss_expr (se_append (se_var 6) (se_var 7)))
  (sb_cons (ss_set nd (se_var 8))
  (sb_one ss_break))) sb_nil)
  (sb_one (ss_set nd (se_sub (se_var 2) (se_var 9))))))))))
  (sb_one (ss_ret (se_var 6))))))))
abbrev s__law_refused : Stmt := top 49
theorem sc__law_refused : FnScope ["_law_ask", "_law_thing", "_law_due", "error", "_law_kinds", "_law_kind"] ["_law_ask", "_law_thing", "_law_due"] (defScope s__law_refused) := ⟨rfl, rfl, rfl, by decide +kernel, rfl, by decide +kernel, by decide +kernel⟩
theorem ok__law_refused {g : Addr} {fd : FuncData} {C0 : Nat → Addr} (F : Fun K "_law_refused" "_law_refused" s__law_refused g fd) (B : Bi K w mg) (E : ErrAll K mg cls C0) (hm : mg "_law_refused" = some (.ref g)) (hk : PySem.W.keepIn K (.ref g) = true) (hb : Binds K fd refP []) (k : Nat) : RefOk P w K mg base k cls s__law_refused := by
  obtain ⟨CE, m_CE, x_CE⟩ := E.ce
  refine ⟨g, fd, F, hm, hk, sc__law_refused, hb, ref_body (Gs := Gs__law_refused) (by rfl) sc__law_refused (by rfl) (by rfl) m_CE (fun c hc => by rw [E.cl c hc]; exact x_CE c hc) (fun c hc cdv A outer s H hr a oe pn hz hf => ?_) (fun a c due hc => refG a c due hc)⟩
  have nd := sc__law_refused.nd
  have hu : (A.deeper (PyProof.Rows.envOfC refX (defScope s__law_refused) s.heap.objs.size g cdv)).units + 66 < cLine := by have := hr.un; omega
  rw [E.cl c hc] at hz
  have hC := E.ex c hc
  have hot : HotK ((refCx P w K mg base s__law_refused g cdv A outer s H).nox.suite a ((a, oe) :: pn)) := ⟨(a, oe), rfl, List.mem_cons_self, hf, hz.2.2⟩
  exact (sb_cons (ss_set nd (se_lst (sa_cons (se_isE hz.zc hf hC (se_var 3) B.b_isinstance (E.er 0 (by decide)).g (E.kt c 0 hc (by decide))) (sa_cons (se_isE hz.zc hf hC (se_var 3) B.b_isinstance (E.er 1 (by decide)).g (E.kt c 1 hc (by decide))) (sa_cons (se_isE hz.zc hf hC (se_var 3) B.b_isinstance (E.er 2 (by decide)).g (E.kt c 2 hc (by decide))) sa_nil)))))
  (sb_cons (ss_set nd (se_add (se_var 4) (se_lst (sa_cons (se_isE hz.zc hf hC (se_var 3) B.b_isinstance (E.er 3 (by decide)).g (E.kt c 3 hc (by decide))) (sa_cons (se_isE hz.zc hf hC (se_var 3) B.b_isinstance (E.er 4 (by decide)).g (E.kt c 4 hc (by decide))) (sa_cons (se_isE hz.zc hf hC (se_var 3) B.b_isinstance (E.er 5 (by decide)).g (E.kt c 5 hc (by decide))) sa_nil))))))
  (sb_cons (ss_set nd (se_add (se_var 4) (se_lst (sa_cons (se_isE hz.zc hf hC (se_var 3) B.b_isinstance (E.er 6 (by decide)).g (E.kt c 6 hc (by decide))) (sa_cons (se_isE hz.zc hf hC (se_var 3) B.b_isinstance (E.er 7 (by decide)).g (E.kt c 7 hc (by decide))) (sa_cons (se_isE hz.zc hf hC (se_var 3) B.b_isinstance (E.er 8 (by decide)).g (E.kt c 8 hc (by decide))) sa_nil))))))
  (sb_one (ss_ret (se_and (se_eq hu (se_var 4) (SN.se (sn_compH hot nd se_int (by rfl) B.b_range (blkOk_by (own := [("_law_kind", 5)]) (by first | rfl | decide +kernel)) (by decide) ⟨fun _ _ _ _ _ => (sg_name (i := 5) nd), fun _ _ _ _ _ => sts_nil, fun _ _ _ _ _ => (se_eq hu (se_var 5) (se_var 2))⟩))) (se_last (se_isEb (T := "ValueError") hz.zc hf hC (se_var 3) B.b_isinstance B.b_ValueError (by decide +kernel) (E.kv c hc)))))))))
abbrev s_floor_net_X : Stmt := top 23
theorem sc_floor_net_X : FnScope ["rows", "columns", "sides", "row", "column", "box"] ["rows", "columns"] (defScope s_floor_net_X) := ⟨rfl, rfl, rfl, by decide +kernel, rfl, by decide +kernel, by decide +kernel⟩
theorem ok_floor_net_X {f : Addr} {fd : FuncData} {C0 : Nat → Addr} (F : Fun K "floor_net" "floor_net" s_floor_net_X f fd) (B : Bi K w mg) (E : ErrAll K mg cls C0) (C_is_whole : Cal P w K mg base 1 "is_whole" ["thing"] (spF ⟨P, w, K⟩ cls 1 F_is_whole)) :
    FnOk P w K mg base (L2N.CX P w) 2 f fd ["rows", "columns"] (spF ⟨P, w, K⟩ cls 2 F_floor_net_X) := by
  have nd := sc_floor_net_X.nd
  refine fn_okX F sc_floor_net_X (body := Fb_floor_net_X) fun cdv A outer s H E' hr => ?_
  have hu : (A.deeper (PyProof.Rows.envOfC "floor_net" (defScope s_floor_net_X) s.heap.objs.size f cdv)).units + 66 < cLine := by have := hr.un; omega
  exact (sb_cons (ss_if (SW.st (sw_or (st_not (st_val (se_call C_is_whole [false] (san_cons (se_var 0) san_nil) (hr.mono (by decide)) (by rfl)))) (sw_or (st_not (st_val (se_call C_is_whole [false] (san_cons (se_var 1) san_nil) (hr.mono (by decide)) (by rfl)))) (sw_or (st_lt hu (se_var 0) se_int) (sw_or (st_lt hu (se_var 1) se_int) (sw_or1 (st_gt hu (se_mul (se_var 0) (se_var 1)) se_int))))))) (sb_one (ss_raise rfl takes_fn (E.mk1 5 (by decide) (by rfl)))) sb_nil)
  (sb_cons (ss_if (st_gt hu (se_add (se_mul (se_var 0) (se_add (se_var 1) se_int)) (se_mul (se_var 1) (se_add (se_var 0) se_int))) (se_gint (by rfl) B.c_MOST_SIDES)) (sb_one (ss_raise rfl takes_fn (E.mk1 5 (by decide) (by rfl)))) sb_nil)
  (sb_cons (ss_setNew nd (sn_lst sa_nil))
  (sb_cons (ss_for owns_fn rfl (si_range1 (se_var 0) (by rfl) B.b_range) (sg_name (i := 3) nd) (sb_one (ss_for owns_fn rfl (si_range1 (se_var 1) (by rfl) B.b_range) (sg_name (i := 4) nd) (sb_cons (ss_set nd (se_add (se_mul (se_var 3) (se_var 1)) (se_var 4)))
  (sb_cons (ss_expr (se_extend (se_var 2) (se_mul (se_lst (sa_cons (se_tup (sa_cons (se_neg se_int) (sa_cons (se_var 5) sa_nil))) sa_nil)) (se_add (se_add (se_add (se_eq hu (se_var 3) se_int) (se_eq hu (se_var 3) (se_sub (se_var 0) se_int))) (se_eq hu (se_var 4) se_int)) (se_eq hu (se_var 4) (se_sub (se_var 1) se_int))))))
  (sb_cons (ss_if (st_lt hu (se_var 4) (se_sub (se_var 1) se_int)) (sb_one (ss_expr (se_append (se_var 2) (se_tup (sa_cons (se_var 5) (sa_cons (se_add (se_var 5) se_int) sa_nil)))))) sb_nil)
  (sb_one (ss_if (st_lt hu (se_var 3) (se_sub (se_var 0) se_int)) (sb_one (ss_expr (se_append (se_var 2) (se_tup (sa_cons (se_var 5) (sa_cons (se_add (se_var 5) (se_var 1)) sa_nil)))))) sb_nil))))))))
  (sb_one (ss_retTupM (sm_E (se_mul (se_var 0) (se_var 1)) (sm_N (sn_sorted hu B.b_sorted (se_var 2)) sm_nil))))))))
abbrev s__law_floors_right : Stmt := top 50
theorem sc__law_floors_right : FnScope ["_law_bads", "_law_pair", "_law_rows", "_law_columns", "_law_boxes", "_law_sides", "_law_told"] [] (defScope s__law_floors_right) := ⟨rfl, rfl, rfl, by decide +kernel, rfl, by decide +kernel, by decide +kernel⟩
theorem ok__law_floors_right {f c0 P0 : Addr} {fd : FuncData} (F : Fun K "_law_floors_right" "_law_floors_right" s__law_floors_right f fd) (B : Bi K w mg) (T : TabX K mg base "_law_floors_right" f c0 P0) (C_floor_net_X : XCal P w K mg base 2 "floor_net" ["rows", "columns"] (spF ⟨P, w, K⟩ cls 2 F_floor_net_X)) (C__law_refused : ∀ k : Nat, RefOk P w K mg base k cls s__law_refused) (C_floor_net : Cal P w K mg base 2 "floor_net" ["rows", "columns"] (spF ⟨P, w, K⟩ cls 2 F_floor_net)) :
    FnOk P w K mg base CX0 5 f fd [] (spF ⟨P, w, K⟩ cls 0 F__law_floors_right_k14) := by
  have nd := sc__law_floors_right.nd
  refine fn_okT F sc__law_floors_right (body := Fb__law_floors_right_k14) T fun A outer s H E' hr => ?_
  have hu : (A.deeper (PyProof.Rows.envOfC "_law_floors_right" (defScope s__law_floors_right) s.heap.objs.size f (.ref c0))).units + 66 < cLine := by have := hr.un; omega
  exact (sb_cons (ss_set nd (se_lst (sa_cons (se_tup (sa_cons se_int (sa_cons se_int sa_nil))) (sa_cons (se_tup (sa_cons se_int (sa_cons se_int sa_nil))) (sa_cons (se_tup (sa_cons se_int (sa_cons se_int sa_nil))) (sa_cons (se_tup (sa_cons se_int (sa_cons se_int sa_nil))) (sa_cons (se_tup (sa_cons se_int (sa_cons se_int sa_nil))) (sa_cons (se_tup (sa_cons se_int (sa_cons se_int sa_nil))) (sa_cons (se_tup (sa_cons se_int (sa_cons se_int sa_nil))) (sa_cons (se_tup (sa_cons (se_pow se_int se_int) (sa_cons (se_pow se_int se_int) sa_nil))) (sa_cons (se_tup (sa_cons se_int (sa_cons se_int sa_nil))) (sa_cons (se_tup (sa_cons se_int (sa_cons se_int sa_nil))) sa_nil))))))))))))
  (sb_cons (ss_set nd (se_add (se_var 0) (se_lst (sa_cons (se_tup (sa_cons se_int (sa_cons se_int sa_nil))) (sa_cons (se_tup (sa_cons (se_neg se_int) (sa_cons (se_neg se_int) sa_nil))) sa_nil)))))
  (sb_cons (ss_for PassesOwn.never rfl (si_seq (se_add (se_var 0) (se_lst (sa_cons (se_tup (sa_cons se_bl (sa_cons se_int sa_nil))) (sa_cons (se_tup (sa_cons se_int (sa_cons se_non sa_nil))) (sa_cons (se_tup (sa_cons se_str (sa_cons se_int sa_nil))) sa_nil)))))) (sg_name (i := 1) nd) (sb_one (ss_if (st_not (st_val (se_ref (k := 2) (cls := cls) (C__law_refused _) (by rfl) (hr.mono (by decide)) T.t T.b rfl (by rfl) (lam1_by (pn := "_law_one") (by show lam1B (defScope s__law_floors_right) _ "_law_one" = true; decide +kernel)) (by show ¬ ("_law_one" : Str) ∈ (["_law_bads", "_law_pair", "_law_rows", "_law_columns", "_law_boxes", "_law_sides", "_law_told"] : List Str); decide +kernel) (by rfl) (fun _ _ _ _ _ _ => rfl) (sa_cons (se_var 1) (sa_cons se_int sa_nil)) (fun E' A' o' sb Hb f' c' hr' => body_call C_floor_net_X (san_cons (se_ix (se_var 0) se_int) (san_cons (se_ix (se_var 0) se_int) san_nil)) hr' (by rfl))))) (sb_one (ss_ret se_bl)) sb_nil)))
  (sb_cons (ss_for PassesOwn.never rfl (si_seq (se_lst (sa_cons (se_tup (sa_cons se_int (sa_cons se_int (sa_cons se_int (sa_cons se_int sa_nil))))) (sa_cons (se_tup (sa_cons se_int (sa_cons se_int (sa_cons se_int (sa_cons se_int sa_nil))))) (sa_cons (se_tup (sa_cons se_int (sa_cons se_int (sa_cons se_int (sa_cons se_int sa_nil))))) (sa_cons (se_tup (sa_cons se_int (sa_cons se_int (sa_cons se_int (sa_cons se_int sa_nil))))) (sa_cons (se_tup (sa_cons se_int (sa_cons se_int (sa_cons se_int (sa_cons se_int sa_nil))))) sa_nil))))))) (sg_tup rfl (sgs_cons (i := 2) nd (sgs_cons (i := 3) nd (sgs_cons (i := 4) nd (sgs_cons (i := 5) nd sgs_nil))))) (sb_cons (ss_setThaw nd C_floor_net [false, false] (san_cons (se_var 2) (san_cons (se_var 3) san_nil)) (hr.mono (by decide)) (by rfl))
  (sb_cons (ss_if (SW.st (sw_or (st_ne hu (se_ix (se_var 6) se_int) (se_var 4)) (sw_or (st_ne hu (se_len B.b_len (se_ix (se_var 6) se_int)) (se_var 5)) (sw_or1 (st_ne hu (se_ix (se_var 6) se_int) (se_sorted hu B.b_sorted (se_ix (se_var 6) se_int))))))) (sb_one (ss_ret se_bl)) sb_nil)
  (sb_cons (ss_expr (se_clear (se_ix (se_var 6) se_int)))
  (sb_one (ss_if (st_ne hu (se_len B.b_len (se_ix (se_call C_floor_net [false, false] (san_cons (se_var 2) (san_cons (se_var 3) san_nil)) (hr.mono (by decide)) (by rfl)) se_int)) (se_var 5)) (sb_one (ss_ret se_bl)) sb_nil))))))
  (sb_one (ss_ret (se_eq hu (se_call C_floor_net [false, false] (san_cons se_int (san_cons se_int san_nil)) (hr.mono (by decide)) (by rfl)) (se_tup (sa_cons se_int (sa_cons (se_mul (se_lst (sa_cons (se_tup (sa_cons (se_neg se_int) (sa_cons se_int sa_nil))) sa_nil)) se_int) sa_nil))))))))))
abbrev s__law_endings_right : Stmt := top 51
theorem sc__law_endings_right : FnScope ["_law_more", "_law_chains", "_law_others", "_law_net"] ["_law_more"] (defScope s__law_endings_right) := ⟨rfl, rfl, rfl, by decide +kernel, rfl, by decide +kernel, by decide +kernel⟩
theorem ok__law_endings_right {f : Addr} {fd : FuncData} (F : Fun K "_law_endings_right" "_law_endings_right" s__law_endings_right f fd) (B : Bi K w mg) (C_ending : Cal P w K mg base 22 "ending" ["chains", "rings"] (spF ⟨P, w, K⟩ cls 2 F_ending)) (C_openings : Cal P w K mg base 22 "openings" ["chains", "rings"] (spF ⟨P, w, K⟩ cls 2 F_openings)) (C_ending_net : Cal P w K mg base 4 "ending_net" ["chains", "rings"] (spF ⟨P, w, K⟩ cls 2 F_ending_net)) (C_reply : Cal P w K mg base 22 "reply" ["kind", "length", "chains", "rings"] (spF ⟨P, w, K⟩ cls 4 F_reply)) :
    FnOk P w K mg base CX0 23 f fd ["_law_more"] (spF ⟨P, w, K⟩ cls 1 F__law_endings_right_k14) := by
  have nd := sc__law_endings_right.nd
  refine fn_ok F sc__law_endings_right (body := Fb__law_endings_right_k14) fun cdv A outer s H E hr => ?_
  have hu : (A.deeper (PyProof.Rows.envOfC "_law_endings_right" (defScope s__law_endings_right) s.heap.objs.size f cdv)).units + 66 < cLine := by have := hr.un; omega
  exact (sb_cons (ss_setNew nd (sn_lst (sa_cons se_int sa_nil)))
  (sb_cons (ss_if (SW.st (sw_or (st_ne hu (se_callR C_ending (san_cons (se_var 1) (san_cons (se_lst sa_nil) san_nil)) (hr.mono (by decide)) (by rfl)) (se_neg se_int)) (sw_or (st_ne hu (se_callR C_openings (san_cons (se_var 1) (san_cons (se_lst sa_nil) san_nil)) (hr.mono (by decide)) (by rfl)) (se_lst (sa_cons (se_tup (sa_cons se_str (sa_cons se_int sa_nil))) sa_nil))) (sw_or1 (st_ne hu (se_ix (se_callR C_ending_net (san_cons (se_var 1) (san_cons (se_lst sa_nil) san_nil)) (hr.mono (by decide)) (by rfl)) se_int) se_int))))) (sb_one (ss_ret se_bl)) sb_nil)
  (sb_cons (ss_setIx (se_add se_int (se_var 0)) (se_var 1) se_int)
  (sb_cons (ss_if (SW.st (sw_or (st_ne hu (se_callR C_ending (san_cons (se_var 1) (san_cons (se_lst sa_nil) san_nil)) (hr.mono (by decide)) (by rfl)) (se_sub (se_neg se_int) (se_var 0))) (sw_or1 (st_ne hu (se_callR C_openings (san_cons (se_var 1) (san_cons (se_lst sa_nil) san_nil)) (hr.mono (by decide)) (by rfl)) (se_lst (sa_cons (se_tup (sa_cons se_str (sa_cons (se_add se_int (se_var 0)) sa_nil))) sa_nil)))))) (sb_one (ss_ret se_bl)) sb_nil)
  (sb_cons (ss_setIx se_int (se_var 1) se_int)
  (sb_cons (ss_if (SW.st (sw_or (st_ne hu (se_ix (se_callR C_ending_net (san_cons (se_var 1) (san_cons (se_lst sa_nil) san_nil)) (hr.mono (by decide)) (by rfl)) se_int) se_int) (sw_or (st_ne hu (se_callR C_ending (san_cons (se_lst sa_nil) (san_cons (se_var 1) san_nil)) (hr.mono (by decide)) (by rfl)) (se_neg se_int)) (sw_or1 (st_ne hu (se_callR C_openings (san_cons (se_lst sa_nil) (san_cons (se_var 1) san_nil)) (hr.mono (by decide)) (by rfl)) (se_lst (sa_cons (se_tup (sa_cons se_str (sa_cons se_int sa_nil))) sa_nil))))))) (sb_one (ss_ret se_bl)) sb_nil)
  (sb_cons (ss_setNew nd (sn_lst sa_nil))
  (sb_cons (ss_if (st_ne hu (se_callR C_reply (san_cons se_str (san_cons se_int (san_cons (se_var 2) (san_cons (se_lst sa_nil) san_nil)))) (hr.mono (by decide)) (by rfl)) se_str) (sb_one (ss_ret se_bl)) sb_nil)
  (sb_cons (ss_expr (se_append (se_var 2) se_int))
  (sb_cons (ss_if (SW.st (sw_or (st_ne hu (se_callR C_reply (san_cons se_str (san_cons se_int (san_cons (se_var 2) (san_cons (se_lst sa_nil) san_nil)))) (hr.mono (by decide)) (by rfl)) se_str) (sw_or1 (st_ne hu (se_var 2) (se_lst (sa_cons se_int sa_nil)))))) (sb_one (ss_ret se_bl)) sb_nil)
  (sb_cons (ss_if (SW.st (sw_or (st_ne hu (se_callR C_ending (san_cons (se_var 1) (san_cons (se_var 1) san_nil)) (hr.mono (by decide)) (by rfl)) se_int) (sw_or (st_ne hu (se_callR C_openings (san_cons (se_var 1) (san_cons (se_var 1) san_nil)) (hr.mono (by decide)) (by rfl)) (se_lst (sa_cons (se_tup (sa_cons se_str (sa_cons se_int sa_nil))) sa_nil))) (sw_or1 (st_ne hu (se_var 1) (se_lst (sa_cons se_int sa_nil))))))) (sb_one (ss_ret se_bl)) sb_nil)
  (sb_cons (ss_set nd (se_callR C_ending_net (san_cons (se_var 1) (san_cons (se_var 1) san_nil)) (hr.mono (by decide)) (by rfl)))
  (sb_one (ss_ret (se_and (se_eq hu (se_ix (se_var 3) se_int) se_int) (se_and (se_eq hu (se_len B.b_len (se_ix (se_var 3) se_int)) se_int) (se_last (se_eq hu (se_var 1) (se_lst (sa_cons se_int sa_nil))))))))))))))))))))
abbrev s_play_by_X : Stmt := top 47
theorem sc_play_by_X : FnScope ["net", "drawn", "number", "known", "counted", "here", "found", "side", "there", "many"] ["net", "drawn", "number"] (defScope s_play_by_X) := ⟨rfl, rfl, rfl, by decide +kernel, rfl, by decide +kernel, by decide +kernel⟩
theorem ok_play_by_X {f : Addr} {fd : FuncData} {C0 : Nat → Addr} (F : Fun K "play_by" "play_by" s_play_by_X f fd) (B : Bi K w mg) (E : ErrAll K mg cls C0) (C_asked_drawn : Cal P w K mg base 4 "asked_drawn" ["net", "drawn"] (spF ⟨P, w, K⟩ cls 2 F_asked_drawn)) (C_is_whole : Cal P w K mg base 1 "is_whole" ["thing"] (spF ⟨P, w, K⟩ cls 1 F_is_whole)) (C_plays_of : Cal P w K mg base 64 "plays_of" ["net", "drawn", "known", "counted"] (spF ⟨P, w, K⟩ cls 4 (F_plays_of 20))) (C_best_of : Cal P w K mg base 44 "best_of" ["net", "drawn", "known"] (spF ⟨P, w, K⟩ cls 3 F_best_of)) :
    FnOk P w K mg base (L2N.CX P w) 65 f fd ["net", "drawn", "number"] (spF ⟨P, w, K⟩ cls 3 F_play_by_X) := by
  have nd := sc_play_by_X.nd
  refine fn_okX F sc_play_by_X (body := Fb_play_by_X) fun cdv A outer s H E' hr => ?_
  have hu : (A.deeper (PyProof.Rows.envOfC "play_by" (defScope s_play_by_X) s.heap.objs.size f cdv)).units + 66 < cLine := by have := hr.un; omega
  exact (sb_cons (ss_expr (se_call C_asked_drawn [false, false] (san_cons (se_var 0) (san_cons (se_var 1) san_nil)) (hr.mono (by decide)) (by rfl)))
  (sb_cons (by first | exact ss_parM rfl nd (sm_D (sm_D sm_nil)) | exact ss_asgM rfl (sgs_cons (i := 3) nd (sgs_cons (i := 4) nd sgs_nil)) (sm_D (sm_D sm_nil)) (hes := ln_le (ln_D (ln_D ln_nil)) (by decide)))
  (sb_cons (ss_if (SW.st (sw_or (st_not (st_val (se_call C_is_whole [false] (san_cons (se_var 2) san_nil) (hr.mono (by decide)) (by rfl)))) (sw_or1 (st_not (st_lelt hu se_int (se_var 2) (se_call C_plays_of [false, false, true, true] (san_cons (se_var 0) (san_cons (se_var 1) (san_cons (se_var 3) (san_cons (se_var 4) san_nil)))) (hr.mono (by decide)) (by rfl))))))) (sb_one (ss_raise rfl takes_fn (E.mk1 4 (by decide) (by rfl)))) sb_nil)
  (sb_cons (by first | exact ss_parM rfl nd (sm_E (se_list B.b_list (se_var 1)) (sm_N (sn_lst sa_nil) sm_nil)) | exact ss_asgM rfl (sgs_cons (i := 5) nd (sgs_cons (i := 6) nd sgs_nil)) (sm_E (se_list B.b_list (se_var 1)) (sm_N (sn_lst sa_nil) sm_nil)) (hes := ln_le (ln_E (ln_N ln_nil)) (by decide)))
  (sb_cons (ss_while (n := 10000) owns_fn (st_lt hu (se_len B.b_len (se_var 5)) (se_len B.b_len (se_ix (se_var 0) se_int))) (sb_one (ss_for owns_fn rfl (si_seq (se_call C_best_of [false, false, true] (san_cons (se_var 0) (san_cons (se_var 5) (san_cons (se_var 3) san_nil))) (hr.mono (by decide)) (by rfl))) (sg_name (i := 7) nd) (sb_cons (ss_set nd (se_sorted hu B.b_sorted (se_add (se_var 5) (se_lst (sa_cons (se_var 7) sa_nil)))))
  (sb_cons (ss_set nd (se_call C_plays_of [false, false, true, true] (san_cons (se_var 0) (san_cons (se_var 8) (san_cons (se_var 3) (san_cons (se_var 4) san_nil)))) (hr.mono (by decide)) (by rfl)))
  (sb_cons (ss_if (st_lt hu (se_var 2) (se_var 9)) (sb_cons (ss_expr (se_append (se_var 6) (se_var 7)))
  (sb_cons (ss_set nd (se_var 8))
  (sb_one ss_break))) sb_nil)
  (sb_one (ss_set nd (se_sub (se_var 2) (se_var 9))))))))))
  (sb_one (ss_ret (se_var 6))))))))
abbrev s__law_sides_right : Stmt := top 52
theorem sc__law_sides_right : FnScope ["_law_sides", "_law_net", "_law_turn"] [] (defScope s__law_sides_right) := ⟨rfl, rfl, rfl, by decide +kernel, rfl, by decide +kernel, by decide +kernel⟩
theorem ok__law_sides_right {f c0 P0 : Addr} {fd : FuncData} (F : Fun K "_law_sides_right" "_law_sides_right" s__law_sides_right f fd) (B : Bi K w mg) (T : TabX K mg base "_law_sides_right" f c0 P0) (C_opened : Cal P w K mg base 5 "opened" ["net", "drawn"] (spF ⟨P, w, K⟩ cls 2 F_opened)) (C_best : Cal P w K mg base 45 "best" ["net", "drawn"] (spF ⟨P, w, K⟩ cls 2 F_best)) (C_best_plays : Cal P w K mg base 65 "best_plays" ["net", "drawn"] (spF ⟨P, w, K⟩ cls 2 F_best_plays)) (C_worth : Cal P w K mg base 43 "worth" ["net", "drawn"] (spF ⟨P, w, K⟩ cls 2 F_worth)) (C_play_by : Cal P w K mg base 65 "play_by" ["net", "drawn", "number"] (spF ⟨P, w, K⟩ cls 3 F_play_by)) (C_play_by_X : XCal P w K mg base 65 "play_by" ["net", "drawn", "number"] (spF ⟨P, w, K⟩ cls 3 F_play_by_X)) (C__law_refused : ∀ k : Nat, RefOk P w K mg base k cls s__law_refused) :
    FnOk P w K mg base CX0 68 f fd [] (spF ⟨P, w, K⟩ cls 0 F__law_sides_right) := by
  have nd := sc__law_sides_right.nd
  refine fn_okT F sc__law_sides_right (body := Fb__law_sides_right) T fun A outer s H E' hr => ?_
  have hu : (A.deeper (PyProof.Rows.envOfC "_law_sides_right" (defScope s__law_sides_right) s.heap.objs.size f (.ref c0))).units + 66 < cLine := by have := hr.un; omega
  exact (sb_cons (ss_setNew nd (sn_lst (sa_cons (se_tup (sa_cons (se_neg se_int) (sa_cons se_int sa_nil))) (sa_cons (se_tup (sa_cons (se_neg se_int) (sa_cons se_int sa_nil))) sa_nil))))
  (sb_cons (ss_set nd (se_tup (sa_cons se_int (sa_cons (se_var 0) sa_nil))))
  (sb_cons (ss_for PassesOwn.never rfl (si_range1 se_int (by rfl) B.b_range) (sg_name (i := 2) nd) (sb_cons (ss_if (SW.st (sw_or (st_ne hu (se_callR C_opened (san_cons (se_var 1) (san_cons (se_lst sa_nil) san_nil)) (hr.mono (by decide)) (by rfl)) (se_lst (sa_cons se_int (sa_cons se_int sa_nil)))) (sw_or (st_ne hu (se_callR C_best (san_cons (se_var 1) (san_cons (se_lst sa_nil) san_nil)) (hr.mono (by decide)) (by rfl)) (se_lst (sa_cons se_int (sa_cons se_int sa_nil)))) (sw_or (st_ne hu (se_callR C_best_plays (san_cons (se_var 1) (san_cons (se_lst sa_nil) san_nil)) (hr.mono (by decide)) (by rfl)) se_int) (sw_or1 (st_ne hu (se_callR C_worth (san_cons (se_var 1) (san_cons (se_lst sa_nil) san_nil)) (hr.mono (by decide)) (by rfl)) se_int)))))) (sb_one (ss_ret se_bl)) sb_nil)
  (sb_cons (ss_if (SW.st (sw_or (st_ne hu (se_callR C_play_by (san_cons (se_var 1) (san_cons (se_lst sa_nil) (san_cons se_int san_nil))) (hr.mono (by decide)) (by rfl)) (se_lst (sa_cons se_int (sa_cons se_int sa_nil)))) (sw_or1 (st_not (st_val (se_ref (k := 65) (cls := cls) (C__law_refused _) (by rfl) (hr.mono (by decide)) T.t T.b rfl (by rfl) (lam1_by (pn := "_law_one") (by show lam1B (defScope s__law_sides_right) _ "_law_one" = true; decide +kernel)) (by show ¬ ("_law_one" : Str) ∈ (["_law_sides", "_law_net", "_law_turn"] : List Str); decide +kernel) (by rfl) (fun _ _ _ _ _ _ => rfl) (sa_cons se_int (sa_cons se_int sa_nil)) (fun E' A' o' sb Hb f' c' hr' => body_call C_play_by_X (san_cons (se_var 2) (san_cons (se_lst sa_nil) (san_cons (se_var 0) san_nil))) hr' (by rfl)))))))) (sb_one (ss_ret se_bl)) sb_nil)
  (sb_cons (ss_setIx (se_tup (sa_cons se_int (sa_cons se_int sa_nil))) (se_var 0) se_int)
  (sb_cons (ss_if (SW.st (sw_or (st_ne hu (se_callR C_opened (san_cons (se_var 1) (san_cons (se_lst sa_nil) san_nil)) (hr.mono (by decide)) (by rfl)) (se_lst (sa_cons se_int (sa_cons se_int sa_nil)))) (sw_or (st_ne hu (se_callR C_best (san_cons (se_var 1) (san_cons (se_lst sa_nil) san_nil)) (hr.mono (by decide)) (by rfl)) (se_lst (sa_cons se_int sa_nil))) (sw_or (st_ne hu (se_callR C_best_plays (san_cons (se_var 1) (san_cons (se_lst sa_nil) san_nil)) (hr.mono (by decide)) (by rfl)) se_int) (sw_or1 (st_ne hu (se_callR C_worth (san_cons (se_var 1) (san_cons (se_lst sa_nil) san_nil)) (hr.mono (by decide)) (by rfl)) se_int)))))) (sb_one (ss_ret se_bl)) sb_nil)
  (sb_cons (ss_if (SW.st (sw_or (st_ne hu (se_callR C_play_by (san_cons (se_var 1) (san_cons (se_lst sa_nil) (san_cons se_int san_nil))) (hr.mono (by decide)) (by rfl)) (se_lst (sa_cons se_int (sa_cons se_int sa_nil)))) (sw_or1 (st_not (st_val (se_ref (k := 65) (cls := cls) (C__law_refused _) (by rfl) (hr.mono (by decide)) T.t T.b rfl (by rfl) (lam1_by (pn := "_law_one") (by show lam1B (defScope s__law_sides_right) _ "_law_one" = true; decide +kernel)) (by show ¬ ("_law_one" : Str) ∈ (["_law_sides", "_law_net", "_law_turn"] : List Str); decide +kernel) (by rfl) (fun _ _ _ _ _ _ => rfl) (sa_cons se_int (sa_cons se_int sa_nil)) (fun E' A' o' sb Hb f' c' hr' => body_call C_play_by_X (san_cons (se_var 2) (san_cons (se_lst sa_nil) (san_cons (se_var 0) san_nil))) hr' (by rfl)))))))) (sb_one (ss_ret se_bl)) sb_nil)
  (sb_one (ss_setIx (se_tup (sa_cons (se_neg se_int) (sa_cons se_int sa_nil))) (se_var 0) se_int))))))))
  (sb_one (ss_ret (se_eq hu (se_var 1) (se_tup (sa_cons se_int (sa_cons (se_lst (sa_cons (se_tup (sa_cons (se_neg se_int) (sa_cons se_int sa_nil))) (sa_cons (se_tup (sa_cons (se_neg se_int) (sa_cons se_int sa_nil))) sa_nil))) sa_nil)))))))))
abbrev s_law : Stmt := top 53
theorem sc_law : FnScope ["_law_script", "_law_whole"] ["_law_script"] (defScope s_law) := ⟨rfl, rfl, rfl, by decide +kernel, rfl, by decide +kernel, by decide +kernel⟩
theorem ok_law {f : Addr} {fd : FuncData} (F : Fun K "law" "law" s_law f fd) (B : Bi K w mg) (C__law_floors_right : Cal P w K mg base 5 "_law_floors_right" [] (spF ⟨P, w, K⟩ cls 0 F__law_floors_right_k14)) (C__law_endings_right : Cal P w K mg base 23 "_law_endings_right" ["_law_more"] (spF ⟨P, w, K⟩ cls 1 F__law_endings_right_k14)) (C__law_sides_right : Cal P w K mg base 68 "_law_sides_right" [] (spF ⟨P, w, K⟩ cls 0 F__law_sides_right)) :
    FnOk P w K mg base CX0 69 f fd ["_law_script"] (spF ⟨P, w, K⟩ cls 1 F_law_k14) := by
  have nd := sc_law.nd
  refine fn_ok F sc_law (body := Fb_law_k14) fun cdv A outer s H E hr => ?_
  have hu : (A.deeper (PyProof.Rows.envOfC "law" (defScope s_law) s.heap.objs.size f cdv)).units + 66 < cLine := by have := hr.un; omega
  exact (sb_cons (ss_set nd (se_abs B.b_abs (se_sum rfl B.b_sum (se_sl (se_var 0) so_none (so_some se_int)))))
  (sb_one (ss_ret (se_and (se_callG0 C__law_floors_right (hr.mono (by decide)) (by rfl)) (se_and (se_call C__law_endings_right [false] (san_cons (se_mod (se_var 1) se_int) san_nil) (hr.mono (by decide)) (by rfl)) (se_last (se_callG0 C__law_sides_right (hr.mono (by decide)) (by rfl))))))))
end
abbrev clsE (C : Nat → Addr) : Nat → Value := fun c => .ref (C c)
abbrev errC (a0 a1 a2 a3 a4 a5 a6 a7 a8 : Addr) : Nat → Addr := fun c => match c with
  | 0 => a0
  | 1 => a1
  | 2 => a2
  | 3 => a3
  | 4 => a4
  | 5 => a5
  | 6 => a6
  | 7 => a7
  | _ => a8
theorem all_mk {l : PySem.W.OpenLaw} {w : World} {K : PySem.W.Frag} {h : Heap} {mg : Str → Option Value} {fa : Addr} {C_BadNet : Addr} {C_BadDrawn : Addr} {C_BadSide : Addr} {C_BadPlay : Addr} {C_BadNumber : Addr} {C_BadFloor : Addr} {C_BadEnding : Addr} {C_BadOrder : Addr} {C_TooMany : Addr} {C_CloseError : Addr} {c_tab__law_floors_right P_tab__law_floors_right : Addr} {toc__law_floors_right : Value} {tod__law_floors_right : Option Addr} {tvs__law_floors_right : Array Value} {tsl__law_floors_right : Array (Option Value)} {c_tab__law_sides_right P_tab__law_sides_right : Addr} {toc__law_sides_right : Value} {tod__law_sides_right : Option Addr} {tvs__law_sides_right : Array Value} {tsl__law_sides_right : Array (Option Value)} {q : Program}  {f_is_whole : Addr} {od_is_whole an_is_whole : Option Addr} {sl_is_whole : Array (Option Value)} {oc_is_whole kV_is_whole dc_is_whole pm_is_whole cd_is_whole ct_is_whole : Value} {f_is_side : Addr} {od_is_side an_is_side : Option Addr} {sl_is_side : Array (Option Value)} {oc_is_side kV_is_side dc_is_side pm_is_side cd_is_side ct_is_side : Value} {f_asked_net : Addr} {od_asked_net an_asked_net : Option Addr} {sl_asked_net : Array (Option Value)} {oc_asked_net kV_asked_net dc_asked_net pm_asked_net cd_asked_net ct_asked_net : Value} {f_is_rising : Addr} {od_is_rising an_is_rising : Option Addr} {sl_is_rising : Array (Option Value)} {oc_is_rising kV_is_rising dc_is_rising pm_is_rising cd_is_rising ct_is_rising : Value} {f_asked_drawn : Addr} {od_asked_drawn an_asked_drawn : Option Addr} {sl_asked_drawn : Array (Option Value)} {oc_asked_drawn kV_asked_drawn dc_asked_drawn pm_asked_drawn cd_asked_drawn ct_asked_drawn : Value} {f_open_of : Addr} {od_open_of an_open_of : Option Addr} {sl_open_of : Array (Option Value)} {oc_open_of kV_open_of dc_open_of pm_open_of cd_open_of ct_open_of : Value} {f_opened : Addr} {od_opened an_opened : Option Addr} {sl_opened : Array (Option Value)} {oc_opened kV_opened dc_opened pm_opened cd_opened ct_opened : Value} {f_free_of : Addr} {od_free_of an_free_of : Option Addr} {sl_free_of : Array (Option Value)} {oc_free_of kV_free_of dc_free_of pm_free_of cd_free_of ct_free_of : Value} {f_drawn_on : Addr} {od_drawn_on an_drawn_on : Option Addr} {sl_drawn_on : Array (Option Value)} {oc_drawn_on kV_drawn_on dc_drawn_on pm_drawn_on cd_drawn_on ct_drawn_on : Value} {f_floor_net : Addr} {od_floor_net an_floor_net : Option Addr} {sl_floor_net : Array (Option Value)} {oc_floor_net kV_floor_net dc_floor_net pm_floor_net cd_floor_net ct_floor_net : Value} {f_are_lengths : Addr} {od_are_lengths an_are_lengths : Option Addr} {sl_are_lengths : Array (Option Value)} {oc_are_lengths kV_are_lengths dc_are_lengths pm_are_lengths cd_are_lengths ct_are_lengths : Value} {f_asked_ending : Addr} {od_asked_ending an_asked_ending : Option Addr} {sl_asked_ending : Array (Option Value)} {oc_asked_ending kV_asked_ending dc_asked_ending pm_asked_ending cd_asked_ending ct_asked_ending : Value} {f_pieces_of : Addr} {od_pieces_of an_pieces_of : Option Addr} {sl_pieces_of : Array (Option Value)} {oc_pieces_of kV_pieces_of dc_pieces_of pm_pieces_of cd_pieces_of ct_pieces_of : Value} {f_taken_of : Addr} {od_taken_of an_taken_of : Option Addr} {sl_taken_of : Array (Option Value)} {oc_taken_of kV_taken_of dc_taken_of pm_taken_of cd_taken_of ct_taken_of : Value} {f_ending_of : Addr} {od_ending_of an_ending_of : Option Addr} {sl_ending_of : Array (Option Value)} {oc_ending_of kV_ending_of dc_ending_of pm_ending_of cd_ending_of ct_ending_of : Value} {f_ending : Addr} {od_ending an_ending : Option Addr} {sl_ending : Array (Option Value)} {oc_ending kV_ending dc_ending pm_ending cd_ending ct_ending : Value} {f_openings : Addr} {od_openings an_openings : Option Addr} {sl_openings : Array (Option Value)} {oc_openings kV_openings dc_openings pm_openings cd_openings ct_openings : Value} {f_reply : Addr} {od_reply an_reply : Option Addr} {sl_reply : Array (Option Value)} {oc_reply kV_reply dc_reply pm_reply cd_reply ct_reply : Value} {f_ending_net : Addr} {od_ending_net an_ending_net : Option Addr} {sl_ending_net : Array (Option Value)} {oc_ending_net kV_ending_net dc_ending_net pm_ending_net cd_ending_net ct_ending_net : Value} {f_side_worth : Addr} {od_side_worth an_side_worth : Option Addr} {sl_side_worth : Array (Option Value)} {oc_side_worth kV_side_worth dc_side_worth pm_side_worth cd_side_worth ct_side_worth : Value} {f_worth_of : Addr} {od_worth_of an_worth_of : Option Addr} {sl_worth_of : Array (Option Value)} {oc_worth_of kV_worth_of dc_worth_of pm_worth_of cd_worth_of ct_worth_of : Value} {f_worth : Addr} {od_worth an_worth : Option Addr} {sl_worth : Array (Option Value)} {oc_worth kV_worth dc_worth pm_worth cd_worth ct_worth : Value} {f_best_of : Addr} {od_best_of an_best_of : Option Addr} {sl_best_of : Array (Option Value)} {oc_best_of kV_best_of dc_best_of pm_best_of cd_best_of ct_best_of : Value} {f_best : Addr} {od_best an_best : Option Addr} {sl_best : Array (Option Value)} {oc_best kV_best dc_best pm_best cd_best ct_best : Value} {f_plays_of : Addr} {od_plays_of an_plays_of : Option Addr} {sl_plays_of : Array (Option Value)} {oc_plays_of kV_plays_of dc_plays_of pm_plays_of cd_plays_of ct_plays_of : Value} {f_best_plays : Addr} {od_best_plays an_best_plays : Option Addr} {sl_best_plays : Array (Option Value)} {oc_best_plays kV_best_plays dc_best_plays pm_best_plays cd_best_plays ct_best_plays : Value} {f_play_by : Addr} {od_play_by an_play_by : Option Addr} {sl_play_by : Array (Option Value)} {oc_play_by kV_play_by dc_play_by pm_play_by cd_play_by ct_play_by : Value} {f__law_refused : Addr} {od__law_refused an__law_refused : Option Addr} {sl__law_refused : Array (Option Value)} {oc__law_refused kV__law_refused dc__law_refused pm__law_refused cd__law_refused ct__law_refused : Value} {f__law_floors_right : Addr} {od__law_floors_right an__law_floors_right : Option Addr} {sl__law_floors_right : Array (Option Value)} {oc__law_floors_right kV__law_floors_right dc__law_floors_right pm__law_floors_right cd__law_floors_right ct__law_floors_right : Value} {f__law_endings_right : Addr} {od__law_endings_right an__law_endings_right : Option Addr} {sl__law_endings_right : Array (Option Value)} {oc__law_endings_right kV__law_endings_right dc__law_endings_right pm__law_endings_right cd__law_endings_right ct__law_endings_right : Value} {f__law_sides_right : Addr} {od__law_sides_right an__law_sides_right : Option Addr} {sl__law_sides_right : Array (Option Value)} {oc__law_sides_right kV__law_sides_right dc__law_sides_right pm__law_sides_right cd__law_sides_right ct__law_sides_right : Value} {f_law : Addr} {od_law an_law : Option Addr} {sl_law : Array (Option Value)} {oc_law kV_law dc_law pm_law cd_law ct_law : Value} {tk_LONGEST : Tok} {tk_MOST_BOXES : Tok} {tk_MOST_PIECES : Tok} {tk_MOST_SIDES : Tok} {td_LEAST : Addr} {es_LEAST : Array DictEntry} {tn_LEAST : Nat} {td_LEFT : Addr} {es_LEFT : Array DictEntry} {tn_LEFT : Nat} (X : K.In h) (G : h.Ns mainGlobals mg) (hfa : mg "law" = some (.ref fa))
  (TF : ∀ {d' : DefRec} {y : Str} {c P : Addr}, (PyProof.Rows.recsOf q).find? (fun e => e.name == y) = some d' → PySem.W.tabIn K y = some (c, P) → PySem.W.CodeHd h c P ∧ h.get? P = some (PySem.W.tabObj #[]))
  (ca_BadNet : PySem.W.nsIn K mainGlobals "BadNet" = some (some (.ref C_BadNet)))
  (ca_BadDrawn : PySem.W.nsIn K mainGlobals "BadDrawn" = some (some (.ref C_BadDrawn)))
  (ca_BadSide : PySem.W.nsIn K mainGlobals "BadSide" = some (some (.ref C_BadSide)))
  (ca_BadPlay : PySem.W.nsIn K mainGlobals "BadPlay" = some (some (.ref C_BadPlay)))
  (ca_BadNumber : PySem.W.nsIn K mainGlobals "BadNumber" = some (some (.ref C_BadNumber)))
  (ca_BadFloor : PySem.W.nsIn K mainGlobals "BadFloor" = some (some (.ref C_BadFloor)))
  (ca_BadEnding : PySem.W.nsIn K mainGlobals "BadEnding" = some (some (.ref C_BadEnding)))
  (ca_BadOrder : PySem.W.nsIn K mainGlobals "BadOrder" = some (some (.ref C_BadOrder)))
  (ca_TooMany : PySem.W.nsIn K mainGlobals "TooMany" = some (some (.ref C_TooMany)))
  (ca_CloseError : PySem.W.nsIn K mainGlobals "CloseError" = some (some (.ref C_CloseError)))
  (xe_BadNet : PySem.W.excIn K C_BadNet [.type "ValueError", .type "Exception", .type "BaseException", .type "object"] "ValueError.__new__" = true) (xk_BadNet : PySem.W.keepIn K (.ref C_BadNet) = true) (xs_BadNet : PySem.W.subIn K (.ref C_BadNet) (.type "BaseException") = some true) (xt_BadNet : PySem.W.typeIn K (.ref C_BadNet) = some (.type "type"))
  (xg_BadNet : PySem.W.findIn K (.ref C_BadNet) "__getattribute__" = some (some (.builtin "BaseException.__getattribute__"))) (xa_BadNet : PySem.W.findIn K (.ref C_BadNet) "__getattr__" = some none) (xd_BadNet : PySem.W.hasDictIn K C_BadNet = true) (xc_BadNet : PySem.W.findIn K (.ref C_BadNet) "__class__" = some (some (.builtin "object.__class__"))) (xo_BadNet : PySem.W.mroIn K C_BadNet (.type "object") = some true)
  (xv_BadNet : PySem.W.kitOne K (.ref C_BadNet) (.type "ValueError") = some true) (xu_BadNet : PySem.W.subIn K (.ref C_BadNet) (.ref C_CloseError) = some true)
  (ci_BadNet_BadNet : PySem.W.kitOne K (.ref C_BadNet) (.ref C_BadNet) = some true)
  (ci_BadNet_BadDrawn : PySem.W.kitOne K (.ref C_BadNet) (.ref C_BadDrawn) = some false)
  (ci_BadNet_BadSide : PySem.W.kitOne K (.ref C_BadNet) (.ref C_BadSide) = some false)
  (ci_BadNet_BadPlay : PySem.W.kitOne K (.ref C_BadNet) (.ref C_BadPlay) = some false)
  (ci_BadNet_BadNumber : PySem.W.kitOne K (.ref C_BadNet) (.ref C_BadNumber) = some false)
  (ci_BadNet_BadFloor : PySem.W.kitOne K (.ref C_BadNet) (.ref C_BadFloor) = some false)
  (ci_BadNet_BadEnding : PySem.W.kitOne K (.ref C_BadNet) (.ref C_BadEnding) = some false)
  (ci_BadNet_BadOrder : PySem.W.kitOne K (.ref C_BadNet) (.ref C_BadOrder) = some false)
  (ci_BadNet_TooMany : PySem.W.kitOne K (.ref C_BadNet) (.ref C_TooMany) = some false)
  (xe_BadDrawn : PySem.W.excIn K C_BadDrawn [.type "ValueError", .type "Exception", .type "BaseException", .type "object"] "ValueError.__new__" = true) (xk_BadDrawn : PySem.W.keepIn K (.ref C_BadDrawn) = true) (xs_BadDrawn : PySem.W.subIn K (.ref C_BadDrawn) (.type "BaseException") = some true) (xt_BadDrawn : PySem.W.typeIn K (.ref C_BadDrawn) = some (.type "type"))
  (xg_BadDrawn : PySem.W.findIn K (.ref C_BadDrawn) "__getattribute__" = some (some (.builtin "BaseException.__getattribute__"))) (xa_BadDrawn : PySem.W.findIn K (.ref C_BadDrawn) "__getattr__" = some none) (xd_BadDrawn : PySem.W.hasDictIn K C_BadDrawn = true) (xc_BadDrawn : PySem.W.findIn K (.ref C_BadDrawn) "__class__" = some (some (.builtin "object.__class__"))) (xo_BadDrawn : PySem.W.mroIn K C_BadDrawn (.type "object") = some true)
  (xv_BadDrawn : PySem.W.kitOne K (.ref C_BadDrawn) (.type "ValueError") = some true) (xu_BadDrawn : PySem.W.subIn K (.ref C_BadDrawn) (.ref C_CloseError) = some true)
  (ci_BadDrawn_BadNet : PySem.W.kitOne K (.ref C_BadDrawn) (.ref C_BadNet) = some false)
  (ci_BadDrawn_BadDrawn : PySem.W.kitOne K (.ref C_BadDrawn) (.ref C_BadDrawn) = some true)
  (ci_BadDrawn_BadSide : PySem.W.kitOne K (.ref C_BadDrawn) (.ref C_BadSide) = some false)
  (ci_BadDrawn_BadPlay : PySem.W.kitOne K (.ref C_BadDrawn) (.ref C_BadPlay) = some false)
  (ci_BadDrawn_BadNumber : PySem.W.kitOne K (.ref C_BadDrawn) (.ref C_BadNumber) = some false)
  (ci_BadDrawn_BadFloor : PySem.W.kitOne K (.ref C_BadDrawn) (.ref C_BadFloor) = some false)
  (ci_BadDrawn_BadEnding : PySem.W.kitOne K (.ref C_BadDrawn) (.ref C_BadEnding) = some false)
  (ci_BadDrawn_BadOrder : PySem.W.kitOne K (.ref C_BadDrawn) (.ref C_BadOrder) = some false)
  (ci_BadDrawn_TooMany : PySem.W.kitOne K (.ref C_BadDrawn) (.ref C_TooMany) = some false)
  (xe_BadSide : PySem.W.excIn K C_BadSide [.type "ValueError", .type "Exception", .type "BaseException", .type "object"] "ValueError.__new__" = true) (xk_BadSide : PySem.W.keepIn K (.ref C_BadSide) = true) (xs_BadSide : PySem.W.subIn K (.ref C_BadSide) (.type "BaseException") = some true) (xt_BadSide : PySem.W.typeIn K (.ref C_BadSide) = some (.type "type"))
  (xg_BadSide : PySem.W.findIn K (.ref C_BadSide) "__getattribute__" = some (some (.builtin "BaseException.__getattribute__"))) (xa_BadSide : PySem.W.findIn K (.ref C_BadSide) "__getattr__" = some none) (xd_BadSide : PySem.W.hasDictIn K C_BadSide = true) (xc_BadSide : PySem.W.findIn K (.ref C_BadSide) "__class__" = some (some (.builtin "object.__class__"))) (xo_BadSide : PySem.W.mroIn K C_BadSide (.type "object") = some true)
  (xv_BadSide : PySem.W.kitOne K (.ref C_BadSide) (.type "ValueError") = some true) (xu_BadSide : PySem.W.subIn K (.ref C_BadSide) (.ref C_CloseError) = some true)
  (ci_BadSide_BadNet : PySem.W.kitOne K (.ref C_BadSide) (.ref C_BadNet) = some false)
  (ci_BadSide_BadDrawn : PySem.W.kitOne K (.ref C_BadSide) (.ref C_BadDrawn) = some false)
  (ci_BadSide_BadSide : PySem.W.kitOne K (.ref C_BadSide) (.ref C_BadSide) = some true)
  (ci_BadSide_BadPlay : PySem.W.kitOne K (.ref C_BadSide) (.ref C_BadPlay) = some false)
  (ci_BadSide_BadNumber : PySem.W.kitOne K (.ref C_BadSide) (.ref C_BadNumber) = some false)
  (ci_BadSide_BadFloor : PySem.W.kitOne K (.ref C_BadSide) (.ref C_BadFloor) = some false)
  (ci_BadSide_BadEnding : PySem.W.kitOne K (.ref C_BadSide) (.ref C_BadEnding) = some false)
  (ci_BadSide_BadOrder : PySem.W.kitOne K (.ref C_BadSide) (.ref C_BadOrder) = some false)
  (ci_BadSide_TooMany : PySem.W.kitOne K (.ref C_BadSide) (.ref C_TooMany) = some false)
  (xe_BadPlay : PySem.W.excIn K C_BadPlay [.type "ValueError", .type "Exception", .type "BaseException", .type "object"] "ValueError.__new__" = true) (xk_BadPlay : PySem.W.keepIn K (.ref C_BadPlay) = true) (xs_BadPlay : PySem.W.subIn K (.ref C_BadPlay) (.type "BaseException") = some true) (xt_BadPlay : PySem.W.typeIn K (.ref C_BadPlay) = some (.type "type"))
  (xg_BadPlay : PySem.W.findIn K (.ref C_BadPlay) "__getattribute__" = some (some (.builtin "BaseException.__getattribute__"))) (xa_BadPlay : PySem.W.findIn K (.ref C_BadPlay) "__getattr__" = some none) (xd_BadPlay : PySem.W.hasDictIn K C_BadPlay = true) (xc_BadPlay : PySem.W.findIn K (.ref C_BadPlay) "__class__" = some (some (.builtin "object.__class__"))) (xo_BadPlay : PySem.W.mroIn K C_BadPlay (.type "object") = some true)
  (xv_BadPlay : PySem.W.kitOne K (.ref C_BadPlay) (.type "ValueError") = some true) (xu_BadPlay : PySem.W.subIn K (.ref C_BadPlay) (.ref C_CloseError) = some true)
  (ci_BadPlay_BadNet : PySem.W.kitOne K (.ref C_BadPlay) (.ref C_BadNet) = some false)
  (ci_BadPlay_BadDrawn : PySem.W.kitOne K (.ref C_BadPlay) (.ref C_BadDrawn) = some false)
  (ci_BadPlay_BadSide : PySem.W.kitOne K (.ref C_BadPlay) (.ref C_BadSide) = some false)
  (ci_BadPlay_BadPlay : PySem.W.kitOne K (.ref C_BadPlay) (.ref C_BadPlay) = some true)
  (ci_BadPlay_BadNumber : PySem.W.kitOne K (.ref C_BadPlay) (.ref C_BadNumber) = some false)
  (ci_BadPlay_BadFloor : PySem.W.kitOne K (.ref C_BadPlay) (.ref C_BadFloor) = some false)
  (ci_BadPlay_BadEnding : PySem.W.kitOne K (.ref C_BadPlay) (.ref C_BadEnding) = some false)
  (ci_BadPlay_BadOrder : PySem.W.kitOne K (.ref C_BadPlay) (.ref C_BadOrder) = some false)
  (ci_BadPlay_TooMany : PySem.W.kitOne K (.ref C_BadPlay) (.ref C_TooMany) = some false)
  (xe_BadNumber : PySem.W.excIn K C_BadNumber [.type "ValueError", .type "Exception", .type "BaseException", .type "object"] "ValueError.__new__" = true) (xk_BadNumber : PySem.W.keepIn K (.ref C_BadNumber) = true) (xs_BadNumber : PySem.W.subIn K (.ref C_BadNumber) (.type "BaseException") = some true) (xt_BadNumber : PySem.W.typeIn K (.ref C_BadNumber) = some (.type "type"))
  (xg_BadNumber : PySem.W.findIn K (.ref C_BadNumber) "__getattribute__" = some (some (.builtin "BaseException.__getattribute__"))) (xa_BadNumber : PySem.W.findIn K (.ref C_BadNumber) "__getattr__" = some none) (xd_BadNumber : PySem.W.hasDictIn K C_BadNumber = true) (xc_BadNumber : PySem.W.findIn K (.ref C_BadNumber) "__class__" = some (some (.builtin "object.__class__"))) (xo_BadNumber : PySem.W.mroIn K C_BadNumber (.type "object") = some true)
  (xv_BadNumber : PySem.W.kitOne K (.ref C_BadNumber) (.type "ValueError") = some true) (xu_BadNumber : PySem.W.subIn K (.ref C_BadNumber) (.ref C_CloseError) = some true)
  (ci_BadNumber_BadNet : PySem.W.kitOne K (.ref C_BadNumber) (.ref C_BadNet) = some false)
  (ci_BadNumber_BadDrawn : PySem.W.kitOne K (.ref C_BadNumber) (.ref C_BadDrawn) = some false)
  (ci_BadNumber_BadSide : PySem.W.kitOne K (.ref C_BadNumber) (.ref C_BadSide) = some false)
  (ci_BadNumber_BadPlay : PySem.W.kitOne K (.ref C_BadNumber) (.ref C_BadPlay) = some false)
  (ci_BadNumber_BadNumber : PySem.W.kitOne K (.ref C_BadNumber) (.ref C_BadNumber) = some true)
  (ci_BadNumber_BadFloor : PySem.W.kitOne K (.ref C_BadNumber) (.ref C_BadFloor) = some false)
  (ci_BadNumber_BadEnding : PySem.W.kitOne K (.ref C_BadNumber) (.ref C_BadEnding) = some false)
  (ci_BadNumber_BadOrder : PySem.W.kitOne K (.ref C_BadNumber) (.ref C_BadOrder) = some false)
  (ci_BadNumber_TooMany : PySem.W.kitOne K (.ref C_BadNumber) (.ref C_TooMany) = some false)
  (xe_BadFloor : PySem.W.excIn K C_BadFloor [.type "ValueError", .type "Exception", .type "BaseException", .type "object"] "ValueError.__new__" = true) (xk_BadFloor : PySem.W.keepIn K (.ref C_BadFloor) = true) (xs_BadFloor : PySem.W.subIn K (.ref C_BadFloor) (.type "BaseException") = some true) (xt_BadFloor : PySem.W.typeIn K (.ref C_BadFloor) = some (.type "type"))
  (xg_BadFloor : PySem.W.findIn K (.ref C_BadFloor) "__getattribute__" = some (some (.builtin "BaseException.__getattribute__"))) (xa_BadFloor : PySem.W.findIn K (.ref C_BadFloor) "__getattr__" = some none) (xd_BadFloor : PySem.W.hasDictIn K C_BadFloor = true) (xc_BadFloor : PySem.W.findIn K (.ref C_BadFloor) "__class__" = some (some (.builtin "object.__class__"))) (xo_BadFloor : PySem.W.mroIn K C_BadFloor (.type "object") = some true)
  (xv_BadFloor : PySem.W.kitOne K (.ref C_BadFloor) (.type "ValueError") = some true) (xu_BadFloor : PySem.W.subIn K (.ref C_BadFloor) (.ref C_CloseError) = some true)
  (ci_BadFloor_BadNet : PySem.W.kitOne K (.ref C_BadFloor) (.ref C_BadNet) = some false)
  (ci_BadFloor_BadDrawn : PySem.W.kitOne K (.ref C_BadFloor) (.ref C_BadDrawn) = some false)
  (ci_BadFloor_BadSide : PySem.W.kitOne K (.ref C_BadFloor) (.ref C_BadSide) = some false)
  (ci_BadFloor_BadPlay : PySem.W.kitOne K (.ref C_BadFloor) (.ref C_BadPlay) = some false)
  (ci_BadFloor_BadNumber : PySem.W.kitOne K (.ref C_BadFloor) (.ref C_BadNumber) = some false)
  (ci_BadFloor_BadFloor : PySem.W.kitOne K (.ref C_BadFloor) (.ref C_BadFloor) = some true)
  (ci_BadFloor_BadEnding : PySem.W.kitOne K (.ref C_BadFloor) (.ref C_BadEnding) = some false)
  (ci_BadFloor_BadOrder : PySem.W.kitOne K (.ref C_BadFloor) (.ref C_BadOrder) = some false)
  (ci_BadFloor_TooMany : PySem.W.kitOne K (.ref C_BadFloor) (.ref C_TooMany) = some false)
  (xe_BadEnding : PySem.W.excIn K C_BadEnding [.type "ValueError", .type "Exception", .type "BaseException", .type "object"] "ValueError.__new__" = true) (xk_BadEnding : PySem.W.keepIn K (.ref C_BadEnding) = true) (xs_BadEnding : PySem.W.subIn K (.ref C_BadEnding) (.type "BaseException") = some true) (xt_BadEnding : PySem.W.typeIn K (.ref C_BadEnding) = some (.type "type"))
  (xg_BadEnding : PySem.W.findIn K (.ref C_BadEnding) "__getattribute__" = some (some (.builtin "BaseException.__getattribute__"))) (xa_BadEnding : PySem.W.findIn K (.ref C_BadEnding) "__getattr__" = some none) (xd_BadEnding : PySem.W.hasDictIn K C_BadEnding = true) (xc_BadEnding : PySem.W.findIn K (.ref C_BadEnding) "__class__" = some (some (.builtin "object.__class__"))) (xo_BadEnding : PySem.W.mroIn K C_BadEnding (.type "object") = some true)
  (xv_BadEnding : PySem.W.kitOne K (.ref C_BadEnding) (.type "ValueError") = some true) (xu_BadEnding : PySem.W.subIn K (.ref C_BadEnding) (.ref C_CloseError) = some true)
  (ci_BadEnding_BadNet : PySem.W.kitOne K (.ref C_BadEnding) (.ref C_BadNet) = some false)
  (ci_BadEnding_BadDrawn : PySem.W.kitOne K (.ref C_BadEnding) (.ref C_BadDrawn) = some false)
  (ci_BadEnding_BadSide : PySem.W.kitOne K (.ref C_BadEnding) (.ref C_BadSide) = some false)
  (ci_BadEnding_BadPlay : PySem.W.kitOne K (.ref C_BadEnding) (.ref C_BadPlay) = some false)
  (ci_BadEnding_BadNumber : PySem.W.kitOne K (.ref C_BadEnding) (.ref C_BadNumber) = some false)
  (ci_BadEnding_BadFloor : PySem.W.kitOne K (.ref C_BadEnding) (.ref C_BadFloor) = some false)
  (ci_BadEnding_BadEnding : PySem.W.kitOne K (.ref C_BadEnding) (.ref C_BadEnding) = some true)
  (ci_BadEnding_BadOrder : PySem.W.kitOne K (.ref C_BadEnding) (.ref C_BadOrder) = some false)
  (ci_BadEnding_TooMany : PySem.W.kitOne K (.ref C_BadEnding) (.ref C_TooMany) = some false)
  (xe_BadOrder : PySem.W.excIn K C_BadOrder [.type "ValueError", .type "Exception", .type "BaseException", .type "object"] "ValueError.__new__" = true) (xk_BadOrder : PySem.W.keepIn K (.ref C_BadOrder) = true) (xs_BadOrder : PySem.W.subIn K (.ref C_BadOrder) (.type "BaseException") = some true) (xt_BadOrder : PySem.W.typeIn K (.ref C_BadOrder) = some (.type "type"))
  (xg_BadOrder : PySem.W.findIn K (.ref C_BadOrder) "__getattribute__" = some (some (.builtin "BaseException.__getattribute__"))) (xa_BadOrder : PySem.W.findIn K (.ref C_BadOrder) "__getattr__" = some none) (xd_BadOrder : PySem.W.hasDictIn K C_BadOrder = true) (xc_BadOrder : PySem.W.findIn K (.ref C_BadOrder) "__class__" = some (some (.builtin "object.__class__"))) (xo_BadOrder : PySem.W.mroIn K C_BadOrder (.type "object") = some true)
  (xv_BadOrder : PySem.W.kitOne K (.ref C_BadOrder) (.type "ValueError") = some true) (xu_BadOrder : PySem.W.subIn K (.ref C_BadOrder) (.ref C_CloseError) = some true)
  (ci_BadOrder_BadNet : PySem.W.kitOne K (.ref C_BadOrder) (.ref C_BadNet) = some false)
  (ci_BadOrder_BadDrawn : PySem.W.kitOne K (.ref C_BadOrder) (.ref C_BadDrawn) = some false)
  (ci_BadOrder_BadSide : PySem.W.kitOne K (.ref C_BadOrder) (.ref C_BadSide) = some false)
  (ci_BadOrder_BadPlay : PySem.W.kitOne K (.ref C_BadOrder) (.ref C_BadPlay) = some false)
  (ci_BadOrder_BadNumber : PySem.W.kitOne K (.ref C_BadOrder) (.ref C_BadNumber) = some false)
  (ci_BadOrder_BadFloor : PySem.W.kitOne K (.ref C_BadOrder) (.ref C_BadFloor) = some false)
  (ci_BadOrder_BadEnding : PySem.W.kitOne K (.ref C_BadOrder) (.ref C_BadEnding) = some false)
  (ci_BadOrder_BadOrder : PySem.W.kitOne K (.ref C_BadOrder) (.ref C_BadOrder) = some true)
  (ci_BadOrder_TooMany : PySem.W.kitOne K (.ref C_BadOrder) (.ref C_TooMany) = some false)
  (xe_TooMany : PySem.W.excIn K C_TooMany [.type "ValueError", .type "Exception", .type "BaseException", .type "object"] "ValueError.__new__" = true) (xk_TooMany : PySem.W.keepIn K (.ref C_TooMany) = true) (xs_TooMany : PySem.W.subIn K (.ref C_TooMany) (.type "BaseException") = some true) (xt_TooMany : PySem.W.typeIn K (.ref C_TooMany) = some (.type "type"))
  (xg_TooMany : PySem.W.findIn K (.ref C_TooMany) "__getattribute__" = some (some (.builtin "BaseException.__getattribute__"))) (xa_TooMany : PySem.W.findIn K (.ref C_TooMany) "__getattr__" = some none) (xd_TooMany : PySem.W.hasDictIn K C_TooMany = true) (xc_TooMany : PySem.W.findIn K (.ref C_TooMany) "__class__" = some (some (.builtin "object.__class__"))) (xo_TooMany : PySem.W.mroIn K C_TooMany (.type "object") = some true)
  (xv_TooMany : PySem.W.kitOne K (.ref C_TooMany) (.type "ValueError") = some true) (xu_TooMany : PySem.W.subIn K (.ref C_TooMany) (.ref C_CloseError) = some true)
  (ci_TooMany_BadNet : PySem.W.kitOne K (.ref C_TooMany) (.ref C_BadNet) = some false)
  (ci_TooMany_BadDrawn : PySem.W.kitOne K (.ref C_TooMany) (.ref C_BadDrawn) = some false)
  (ci_TooMany_BadSide : PySem.W.kitOne K (.ref C_TooMany) (.ref C_BadSide) = some false)
  (ci_TooMany_BadPlay : PySem.W.kitOne K (.ref C_TooMany) (.ref C_BadPlay) = some false)
  (ci_TooMany_BadNumber : PySem.W.kitOne K (.ref C_TooMany) (.ref C_BadNumber) = some false)
  (ci_TooMany_BadFloor : PySem.W.kitOne K (.ref C_TooMany) (.ref C_BadFloor) = some false)
  (ci_TooMany_BadEnding : PySem.W.kitOne K (.ref C_TooMany) (.ref C_BadEnding) = some false)
  (ci_TooMany_BadOrder : PySem.W.kitOne K (.ref C_TooMany) (.ref C_BadOrder) = some false)
  (ci_TooMany_TooMany : PySem.W.kitOne K (.ref C_TooMany) (.ref C_TooMany) = some true)
  (xn_get : PySem.W.specialIn K (.builtin "object.__class__") "__get__" = some (some (.builtin "getset_descriptor.__get__"))) (xn_tak : PySem.W.takesIn K (.builtin "object.__class__") = some true)
  (xs_CloseError : PySem.W.subIn K (.ref C_CloseError) (.type "BaseException") = some true) (xd_CloseError : PySem.W.hasDictIn K C_CloseError = true) (xt_CloseError : PySem.W.typeIn K (.ref C_CloseError) = some (.type "type"))
  (a_is_whole : PySem.W.nsIn K mainGlobals "is_whole" = some (some (.ref f_is_whole)))
  (l_is_whole : K.lookup f_is_whole = some ⟨oc_is_whole, od_is_whole, .func (PySem.W.fnOf "is_whole" "is_whole" (defArgs s_is_whole) (defBody s_is_whole) (defScope s_is_whole) .none kV_is_whole dc_is_whole pm_is_whole an_is_whole cd_is_whole ct_is_whole), sl_is_whole⟩)
  (c_is_whole : PySem.W.codeIn K cd_is_whole "is_whole" = true)
  (k_is_whole : PySem.W.keepIn K (.ref f_is_whole) = true)
  (a_is_side : PySem.W.nsIn K mainGlobals "is_side" = some (some (.ref f_is_side)))
  (l_is_side : K.lookup f_is_side = some ⟨oc_is_side, od_is_side, .func (PySem.W.fnOf "is_side" "is_side" (defArgs s_is_side) (defBody s_is_side) (defScope s_is_side) .none kV_is_side dc_is_side pm_is_side an_is_side cd_is_side ct_is_side), sl_is_side⟩)
  (c_is_side : PySem.W.codeIn K cd_is_side "is_side" = true)
  (k_is_side : PySem.W.keepIn K (.ref f_is_side) = true)
  (a_asked_net : PySem.W.nsIn K mainGlobals "asked_net" = some (some (.ref f_asked_net)))
  (l_asked_net : K.lookup f_asked_net = some ⟨oc_asked_net, od_asked_net, .func (PySem.W.fnOf "asked_net" "asked_net" (defArgs s_asked_net) (defBody s_asked_net) (defScope s_asked_net) .none kV_asked_net dc_asked_net pm_asked_net an_asked_net cd_asked_net ct_asked_net), sl_asked_net⟩)
  (c_asked_net : PySem.W.codeIn K cd_asked_net "asked_net" = true)
  (k_asked_net : PySem.W.keepIn K (.ref f_asked_net) = true)
  (a_is_rising : PySem.W.nsIn K mainGlobals "is_rising" = some (some (.ref f_is_rising)))
  (l_is_rising : K.lookup f_is_rising = some ⟨oc_is_rising, od_is_rising, .func (PySem.W.fnOf "is_rising" "is_rising" (defArgs s_is_rising) (defBody s_is_rising) (defScope s_is_rising) .none kV_is_rising dc_is_rising pm_is_rising an_is_rising cd_is_rising ct_is_rising), sl_is_rising⟩)
  (c_is_rising : PySem.W.codeIn K cd_is_rising "is_rising" = true)
  (k_is_rising : PySem.W.keepIn K (.ref f_is_rising) = true)
  (a_asked_drawn : PySem.W.nsIn K mainGlobals "asked_drawn" = some (some (.ref f_asked_drawn)))
  (l_asked_drawn : K.lookup f_asked_drawn = some ⟨oc_asked_drawn, od_asked_drawn, .func (PySem.W.fnOf "asked_drawn" "asked_drawn" (defArgs s_asked_drawn) (defBody s_asked_drawn) (defScope s_asked_drawn) .none kV_asked_drawn dc_asked_drawn pm_asked_drawn an_asked_drawn cd_asked_drawn ct_asked_drawn), sl_asked_drawn⟩)
  (c_asked_drawn : PySem.W.codeIn K cd_asked_drawn "asked_drawn" = true)
  (k_asked_drawn : PySem.W.keepIn K (.ref f_asked_drawn) = true)
  (a_open_of : PySem.W.nsIn K mainGlobals "open_of" = some (some (.ref f_open_of)))
  (l_open_of : K.lookup f_open_of = some ⟨oc_open_of, od_open_of, .func (PySem.W.fnOf "open_of" "open_of" (defArgs s_open_of) (defBody s_open_of) (defScope s_open_of) .none kV_open_of dc_open_of pm_open_of an_open_of cd_open_of ct_open_of), sl_open_of⟩)
  (c_open_of : PySem.W.codeIn K cd_open_of "open_of" = true)
  (k_open_of : PySem.W.keepIn K (.ref f_open_of) = true)
  (a_opened : PySem.W.nsIn K mainGlobals "opened" = some (some (.ref f_opened)))
  (l_opened : K.lookup f_opened = some ⟨oc_opened, od_opened, .func (PySem.W.fnOf "opened" "opened" (defArgs s_opened) (defBody s_opened) (defScope s_opened) .none kV_opened dc_opened pm_opened an_opened cd_opened ct_opened), sl_opened⟩)
  (c_opened : PySem.W.codeIn K cd_opened "opened" = true)
  (k_opened : PySem.W.keepIn K (.ref f_opened) = true)
  (a_free_of : PySem.W.nsIn K mainGlobals "free_of" = some (some (.ref f_free_of)))
  (l_free_of : K.lookup f_free_of = some ⟨oc_free_of, od_free_of, .func (PySem.W.fnOf "free_of" "free_of" (defArgs s_free_of) (defBody s_free_of) (defScope s_free_of) .none kV_free_of dc_free_of pm_free_of an_free_of cd_free_of ct_free_of), sl_free_of⟩)
  (c_free_of : PySem.W.codeIn K cd_free_of "free_of" = true)
  (k_free_of : PySem.W.keepIn K (.ref f_free_of) = true)
  (a_drawn_on : PySem.W.nsIn K mainGlobals "drawn_on" = some (some (.ref f_drawn_on)))
  (l_drawn_on : K.lookup f_drawn_on = some ⟨oc_drawn_on, od_drawn_on, .func (PySem.W.fnOf "drawn_on" "drawn_on" (defArgs s_drawn_on) (defBody s_drawn_on) (defScope s_drawn_on) .none kV_drawn_on dc_drawn_on pm_drawn_on an_drawn_on cd_drawn_on ct_drawn_on), sl_drawn_on⟩)
  (c_drawn_on : PySem.W.codeIn K cd_drawn_on "drawn_on" = true)
  (k_drawn_on : PySem.W.keepIn K (.ref f_drawn_on) = true)
  (a_floor_net : PySem.W.nsIn K mainGlobals "floor_net" = some (some (.ref f_floor_net)))
  (l_floor_net : K.lookup f_floor_net = some ⟨oc_floor_net, od_floor_net, .func (PySem.W.fnOf "floor_net" "floor_net" (defArgs s_floor_net) (defBody s_floor_net) (defScope s_floor_net) .none kV_floor_net dc_floor_net pm_floor_net an_floor_net cd_floor_net ct_floor_net), sl_floor_net⟩)
  (c_floor_net : PySem.W.codeIn K cd_floor_net "floor_net" = true)
  (k_floor_net : PySem.W.keepIn K (.ref f_floor_net) = true)
  (a_are_lengths : PySem.W.nsIn K mainGlobals "are_lengths" = some (some (.ref f_are_lengths)))
  (l_are_lengths : K.lookup f_are_lengths = some ⟨oc_are_lengths, od_are_lengths, .func (PySem.W.fnOf "are_lengths" "are_lengths" (defArgs s_are_lengths) (defBody s_are_lengths) (defScope s_are_lengths) .none kV_are_lengths dc_are_lengths pm_are_lengths an_are_lengths cd_are_lengths ct_are_lengths), sl_are_lengths⟩)
  (c_are_lengths : PySem.W.codeIn K cd_are_lengths "are_lengths" = true)
  (k_are_lengths : PySem.W.keepIn K (.ref f_are_lengths) = true)
  (a_asked_ending : PySem.W.nsIn K mainGlobals "asked_ending" = some (some (.ref f_asked_ending)))
  (l_asked_ending : K.lookup f_asked_ending = some ⟨oc_asked_ending, od_asked_ending, .func (PySem.W.fnOf "asked_ending" "asked_ending" (defArgs s_asked_ending) (defBody s_asked_ending) (defScope s_asked_ending) .none kV_asked_ending dc_asked_ending pm_asked_ending an_asked_ending cd_asked_ending ct_asked_ending), sl_asked_ending⟩)
  (c_asked_ending : PySem.W.codeIn K cd_asked_ending "asked_ending" = true)
  (k_asked_ending : PySem.W.keepIn K (.ref f_asked_ending) = true)
  (a_pieces_of : PySem.W.nsIn K mainGlobals "pieces_of" = some (some (.ref f_pieces_of)))
  (l_pieces_of : K.lookup f_pieces_of = some ⟨oc_pieces_of, od_pieces_of, .func (PySem.W.fnOf "pieces_of" "pieces_of" (defArgs s_pieces_of) (defBody s_pieces_of) (defScope s_pieces_of) .none kV_pieces_of dc_pieces_of pm_pieces_of an_pieces_of cd_pieces_of ct_pieces_of), sl_pieces_of⟩)
  (c_pieces_of : PySem.W.codeIn K cd_pieces_of "pieces_of" = true)
  (k_pieces_of : PySem.W.keepIn K (.ref f_pieces_of) = true)
  (a_taken_of : PySem.W.nsIn K mainGlobals "taken_of" = some (some (.ref f_taken_of)))
  (l_taken_of : K.lookup f_taken_of = some ⟨oc_taken_of, od_taken_of, .func (PySem.W.fnOf "taken_of" "taken_of" (defArgs s_taken_of) (defBody s_taken_of) (defScope s_taken_of) .none kV_taken_of dc_taken_of pm_taken_of an_taken_of cd_taken_of ct_taken_of), sl_taken_of⟩)
  (c_taken_of : PySem.W.codeIn K cd_taken_of "taken_of" = true)
  (k_taken_of : PySem.W.keepIn K (.ref f_taken_of) = true)
  (a_ending_of : PySem.W.nsIn K mainGlobals "ending_of" = some (some (.ref f_ending_of)))
  (l_ending_of : K.lookup f_ending_of = some ⟨oc_ending_of, od_ending_of, .func (PySem.W.fnOf "ending_of" "ending_of" (defArgs s_ending_of) (defBody s_ending_of) (defScope s_ending_of) .none kV_ending_of dc_ending_of pm_ending_of an_ending_of cd_ending_of ct_ending_of), sl_ending_of⟩)
  (c_ending_of : PySem.W.codeIn K cd_ending_of "ending_of" = true)
  (k_ending_of : PySem.W.keepIn K (.ref f_ending_of) = true)
  (a_ending : PySem.W.nsIn K mainGlobals "ending" = some (some (.ref f_ending)))
  (l_ending : K.lookup f_ending = some ⟨oc_ending, od_ending, .func (PySem.W.fnOf "ending" "ending" (defArgs s_ending) (defBody s_ending) (defScope s_ending) .none kV_ending dc_ending pm_ending an_ending cd_ending ct_ending), sl_ending⟩)
  (c_ending : PySem.W.codeIn K cd_ending "ending" = true)
  (k_ending : PySem.W.keepIn K (.ref f_ending) = true)
  (a_openings : PySem.W.nsIn K mainGlobals "openings" = some (some (.ref f_openings)))
  (l_openings : K.lookup f_openings = some ⟨oc_openings, od_openings, .func (PySem.W.fnOf "openings" "openings" (defArgs s_openings) (defBody s_openings) (defScope s_openings) .none kV_openings dc_openings pm_openings an_openings cd_openings ct_openings), sl_openings⟩)
  (c_openings : PySem.W.codeIn K cd_openings "openings" = true)
  (k_openings : PySem.W.keepIn K (.ref f_openings) = true)
  (a_reply : PySem.W.nsIn K mainGlobals "reply" = some (some (.ref f_reply)))
  (l_reply : K.lookup f_reply = some ⟨oc_reply, od_reply, .func (PySem.W.fnOf "reply" "reply" (defArgs s_reply) (defBody s_reply) (defScope s_reply) .none kV_reply dc_reply pm_reply an_reply cd_reply ct_reply), sl_reply⟩)
  (c_reply : PySem.W.codeIn K cd_reply "reply" = true)
  (k_reply : PySem.W.keepIn K (.ref f_reply) = true)
  (a_ending_net : PySem.W.nsIn K mainGlobals "ending_net" = some (some (.ref f_ending_net)))
  (l_ending_net : K.lookup f_ending_net = some ⟨oc_ending_net, od_ending_net, .func (PySem.W.fnOf "ending_net" "ending_net" (defArgs s_ending_net) (defBody s_ending_net) (defScope s_ending_net) .none kV_ending_net dc_ending_net pm_ending_net an_ending_net cd_ending_net ct_ending_net), sl_ending_net⟩)
  (c_ending_net : PySem.W.codeIn K cd_ending_net "ending_net" = true)
  (k_ending_net : PySem.W.keepIn K (.ref f_ending_net) = true)
  (a_side_worth : PySem.W.nsIn K mainGlobals "side_worth" = some (some (.ref f_side_worth)))
  (l_side_worth : K.lookup f_side_worth = some ⟨oc_side_worth, od_side_worth, .func (PySem.W.fnOf "side_worth" "side_worth" (defArgs s_side_worth) (defBody s_side_worth) (defScope s_side_worth) .none kV_side_worth dc_side_worth pm_side_worth an_side_worth cd_side_worth ct_side_worth), sl_side_worth⟩)
  (c_side_worth : PySem.W.codeIn K cd_side_worth "side_worth" = true)
  (k_side_worth : PySem.W.keepIn K (.ref f_side_worth) = true)
  (a_worth_of : PySem.W.nsIn K mainGlobals "worth_of" = some (some (.ref f_worth_of)))
  (l_worth_of : K.lookup f_worth_of = some ⟨oc_worth_of, od_worth_of, .func (PySem.W.fnOf "worth_of" "worth_of" (defArgs s_worth_of) (defBody s_worth_of) (defScope s_worth_of) .none kV_worth_of dc_worth_of pm_worth_of an_worth_of cd_worth_of ct_worth_of), sl_worth_of⟩)
  (c_worth_of : PySem.W.codeIn K cd_worth_of "worth_of" = true)
  (k_worth_of : PySem.W.keepIn K (.ref f_worth_of) = true)
  (a_worth : PySem.W.nsIn K mainGlobals "worth" = some (some (.ref f_worth)))
  (l_worth : K.lookup f_worth = some ⟨oc_worth, od_worth, .func (PySem.W.fnOf "worth" "worth" (defArgs s_worth) (defBody s_worth) (defScope s_worth) .none kV_worth dc_worth pm_worth an_worth cd_worth ct_worth), sl_worth⟩)
  (c_worth : PySem.W.codeIn K cd_worth "worth" = true)
  (k_worth : PySem.W.keepIn K (.ref f_worth) = true)
  (a_best_of : PySem.W.nsIn K mainGlobals "best_of" = some (some (.ref f_best_of)))
  (l_best_of : K.lookup f_best_of = some ⟨oc_best_of, od_best_of, .func (PySem.W.fnOf "best_of" "best_of" (defArgs s_best_of) (defBody s_best_of) (defScope s_best_of) .none kV_best_of dc_best_of pm_best_of an_best_of cd_best_of ct_best_of), sl_best_of⟩)
  (c_best_of : PySem.W.codeIn K cd_best_of "best_of" = true)
  (k_best_of : PySem.W.keepIn K (.ref f_best_of) = true)
  (a_best : PySem.W.nsIn K mainGlobals "best" = some (some (.ref f_best)))
  (l_best : K.lookup f_best = some ⟨oc_best, od_best, .func (PySem.W.fnOf "best" "best" (defArgs s_best) (defBody s_best) (defScope s_best) .none kV_best dc_best pm_best an_best cd_best ct_best), sl_best⟩)
  (c_best : PySem.W.codeIn K cd_best "best" = true)
  (k_best : PySem.W.keepIn K (.ref f_best) = true)
  (a_plays_of : PySem.W.nsIn K mainGlobals "plays_of" = some (some (.ref f_plays_of)))
  (l_plays_of : K.lookup f_plays_of = some ⟨oc_plays_of, od_plays_of, .func (PySem.W.fnOf "plays_of" "plays_of" (defArgs s_plays_of) (defBody s_plays_of) (defScope s_plays_of) .none kV_plays_of dc_plays_of pm_plays_of an_plays_of cd_plays_of ct_plays_of), sl_plays_of⟩)
  (c_plays_of : PySem.W.codeIn K cd_plays_of "plays_of" = true)
  (k_plays_of : PySem.W.keepIn K (.ref f_plays_of) = true)
  (a_best_plays : PySem.W.nsIn K mainGlobals "best_plays" = some (some (.ref f_best_plays)))
  (l_best_plays : K.lookup f_best_plays = some ⟨oc_best_plays, od_best_plays, .func (PySem.W.fnOf "best_plays" "best_plays" (defArgs s_best_plays) (defBody s_best_plays) (defScope s_best_plays) .none kV_best_plays dc_best_plays pm_best_plays an_best_plays cd_best_plays ct_best_plays), sl_best_plays⟩)
  (c_best_plays : PySem.W.codeIn K cd_best_plays "best_plays" = true)
  (k_best_plays : PySem.W.keepIn K (.ref f_best_plays) = true)
  (a_play_by : PySem.W.nsIn K mainGlobals "play_by" = some (some (.ref f_play_by)))
  (l_play_by : K.lookup f_play_by = some ⟨oc_play_by, od_play_by, .func (PySem.W.fnOf "play_by" "play_by" (defArgs s_play_by) (defBody s_play_by) (defScope s_play_by) .none kV_play_by dc_play_by pm_play_by an_play_by cd_play_by ct_play_by), sl_play_by⟩)
  (c_play_by : PySem.W.codeIn K cd_play_by "play_by" = true)
  (k_play_by : PySem.W.keepIn K (.ref f_play_by) = true)
  (a__law_refused : PySem.W.nsIn K mainGlobals "_law_refused" = some (some (.ref f__law_refused)))
  (l__law_refused : K.lookup f__law_refused = some ⟨oc__law_refused, od__law_refused, .func (PySem.W.fnOf "_law_refused" "_law_refused" (defArgs s__law_refused) (defBody s__law_refused) (defScope s__law_refused) .none kV__law_refused dc__law_refused pm__law_refused an__law_refused cd__law_refused ct__law_refused), sl__law_refused⟩)
  (c__law_refused : PySem.W.codeIn K cd__law_refused "_law_refused" = true)
  (k__law_refused : PySem.W.keepIn K (.ref f__law_refused) = true)
  (a__law_floors_right : PySem.W.nsIn K mainGlobals "_law_floors_right" = some (some (.ref f__law_floors_right)))
  (l__law_floors_right : K.lookup f__law_floors_right = some ⟨oc__law_floors_right, od__law_floors_right, .func (PySem.W.fnOf "_law_floors_right" "_law_floors_right" (defArgs s__law_floors_right) (defBody s__law_floors_right) (defScope s__law_floors_right) .none kV__law_floors_right dc__law_floors_right pm__law_floors_right an__law_floors_right cd__law_floors_right ct__law_floors_right), sl__law_floors_right⟩)
  (c__law_floors_right : PySem.W.codeIn K cd__law_floors_right "_law_floors_right" = true)
  (k__law_floors_right : PySem.W.keepIn K (.ref f__law_floors_right) = true)
  (a__law_endings_right : PySem.W.nsIn K mainGlobals "_law_endings_right" = some (some (.ref f__law_endings_right)))
  (l__law_endings_right : K.lookup f__law_endings_right = some ⟨oc__law_endings_right, od__law_endings_right, .func (PySem.W.fnOf "_law_endings_right" "_law_endings_right" (defArgs s__law_endings_right) (defBody s__law_endings_right) (defScope s__law_endings_right) .none kV__law_endings_right dc__law_endings_right pm__law_endings_right an__law_endings_right cd__law_endings_right ct__law_endings_right), sl__law_endings_right⟩)
  (c__law_endings_right : PySem.W.codeIn K cd__law_endings_right "_law_endings_right" = true)
  (k__law_endings_right : PySem.W.keepIn K (.ref f__law_endings_right) = true)
  (a__law_sides_right : PySem.W.nsIn K mainGlobals "_law_sides_right" = some (some (.ref f__law_sides_right)))
  (l__law_sides_right : K.lookup f__law_sides_right = some ⟨oc__law_sides_right, od__law_sides_right, .func (PySem.W.fnOf "_law_sides_right" "_law_sides_right" (defArgs s__law_sides_right) (defBody s__law_sides_right) (defScope s__law_sides_right) .none kV__law_sides_right dc__law_sides_right pm__law_sides_right an__law_sides_right cd__law_sides_right ct__law_sides_right), sl__law_sides_right⟩)
  (c__law_sides_right : PySem.W.codeIn K cd__law_sides_right "_law_sides_right" = true)
  (k__law_sides_right : PySem.W.keepIn K (.ref f__law_sides_right) = true)
  (a_law : PySem.W.nsIn K mainGlobals "law" = some (some (.ref f_law)))
  (l_law : K.lookup f_law = some ⟨oc_law, od_law, .func (PySem.W.fnOf "law" "law" (defArgs s_law) (defBody s_law) (defScope s_law) .none kV_law dc_law pm_law an_law cd_law ct_law), sl_law⟩)
  (c_law : PySem.W.codeIn K cd_law "law" = true)
  (k_law : PySem.W.keepIn K (.ref f_law) = true)
  (uc__law_floors_right : cd__law_floors_right = .ref c_tab__law_floors_right) (ul__law_floors_right : K.lookup c_tab__law_floors_right = some ⟨toc__law_floors_right, tod__law_floors_right, .fields tvs__law_floors_right, tsl__law_floors_right⟩) (uv__law_floors_right : (tvs__law_floors_right[11]? : Option Value) = some (.ref P_tab__law_floors_right)) (nt__law_floors_right : K.lookup P_tab__law_floors_right = none)
  (uc__law_sides_right : cd__law_sides_right = .ref c_tab__law_sides_right) (ul__law_sides_right : K.lookup c_tab__law_sides_right = some ⟨toc__law_sides_right, tod__law_sides_right, .fields tvs__law_sides_right, tsl__law_sides_right⟩) (uv__law_sides_right : (tvs__law_sides_right[11]? : Option Value) = some (.ref P_tab__law_sides_right)) (nt__law_sides_right : K.lookup P_tab__law_sides_right = none)
  (nd_tab : ([P_tab__law_floors_right, P_tab__law_sides_right] : List Addr).Nodup)
  (hr__law_floors_right : ((PyProof.Rows.recsOf q).find? (fun e => e.name == ("_law_floors_right" : Str))).isSome = true)
  (hr__law_sides_right : ((PyProof.Rows.recsOf q).find? (fun e => e.name == ("_law_sides_right" : Str))).isSome = true)
  (zb_ValueError : PySem.W.nsIn K mainGlobals "ValueError" = some none)
  (zb_abs : PySem.W.nsIn K mainGlobals "abs" = some none)
  (zb_all : PySem.W.nsIn K mainGlobals "all" = some none)
  (zb_any : PySem.W.nsIn K mainGlobals "any" = some none)
  (zb_bool : PySem.W.nsIn K mainGlobals "bool" = some none)
  (zb_enumerate : PySem.W.nsIn K mainGlobals "enumerate" = some none)
  (zb_int : PySem.W.nsIn K mainGlobals "int" = some none)
  (zb_isinstance : PySem.W.nsIn K mainGlobals "isinstance" = some none)
  (zb_len : PySem.W.nsIn K mainGlobals "len" = some none)
  (zb_list : PySem.W.nsIn K mainGlobals "list" = some none)
  (zb_max : PySem.W.nsIn K mainGlobals "max" = some none)
  (zb_range : PySem.W.nsIn K mainGlobals "range" = some none)
  (zb_sorted : PySem.W.nsIn K mainGlobals "sorted" = some none)
  (zb_str : PySem.W.nsIn K mainGlobals "str" = some none)
  (zb_sum : PySem.W.nsIn K mainGlobals "sum" = some none)
  (zb_tuple : PySem.W.nsIn K mainGlobals "tuple" = some none)
  (zc_LONGEST : PySem.W.nsIn K mainGlobals "LONGEST" = some (some (.int 1000 tk_LONGEST)))
  (zc_MOST_BOXES : PySem.W.nsIn K mainGlobals "MOST_BOXES" = some (some (.int 9 tk_MOST_BOXES)))
  (zc_MOST_PIECES : PySem.W.nsIn K mainGlobals "MOST_PIECES" = some (some (.int 8 tk_MOST_PIECES)))
  (zc_MOST_SIDES : PySem.W.nsIn K mainGlobals "MOST_SIDES" = some (some (.int 12 tk_MOST_SIDES)))
  (ta_LEAST : PySem.W.nsIn K mainGlobals "LEAST" = some (some (.ref td_LEAST)))
  (tl_LEAST : K.lookup td_LEAST = some ⟨.type "dict", none, .dict es_LEAST tn_LEAST, #[]⟩)
  (tq_LEAST : PySem.W.KeysLit w.params es_LEAST.toList)
  (ts_LEAST : (td_LEAST == sysModules) = false)
  (te_LEAST : EntsAre es_LEAST.toList [("chain", 3), ("ring", 4)])
  (ta_LEFT : PySem.W.nsIn K mainGlobals "LEFT" = some (some (.ref td_LEFT)))
  (tl_LEFT : K.lookup td_LEFT = some ⟨.type "dict", none, .dict es_LEFT tn_LEFT, #[]⟩)
  (tq_LEFT : PySem.W.KeysLit w.params es_LEFT.toList)
  (ts_LEFT : (td_LEFT == sysModules) = false)
  (te_LEFT : EntsAre es_LEFT.toList [("chain", 2), ("ring", 4)]) : LamX.LawAtS l w K CX0 69 63 "_law_script" mg fa h := by
  have e := hfa.symm.trans (PySem.W.mg_of X G a_law)
  cases e
  have B : Bi K w mg := ⟨⟨_, PySem.W.mg_of X G ta_LEAST, _, _, tl_LEAST, tq_LEAST, ts_LEAST, te_LEAST⟩, ⟨_, PySem.W.mg_of X G ta_LEFT, _, _, tl_LEFT, tq_LEFT, ts_LEFT, te_LEFT⟩, PySem.W.mg_none_of X G zb_ValueError, PySem.W.mg_none_of X G zb_abs, PySem.W.mg_none_of X G zb_all, PySem.W.mg_none_of X G zb_any, PySem.W.mg_none_of X G zb_bool, PySem.W.mg_none_of X G zb_enumerate, PySem.W.mg_none_of X G zb_int, PySem.W.mg_none_of X G zb_isinstance, PySem.W.mg_none_of X G zb_len, PySem.W.mg_none_of X G zb_list, PySem.W.mg_none_of X G zb_max, PySem.W.mg_none_of X G zb_range, PySem.W.mg_none_of X G zb_sorted, PySem.W.mg_none_of X G zb_str, PySem.W.mg_none_of X G zb_sum, PySem.W.mg_none_of X G zb_tuple, ⟨_, PySem.W.mg_of X G zc_LONGEST⟩, ⟨_, PySem.W.mg_of X G zc_MOST_BOXES⟩, ⟨_, PySem.W.mg_of X G zc_MOST_PIECES⟩, ⟨_, PySem.W.mg_of X G zc_MOST_SIDES⟩⟩
  have tb__law_floors_right : PySem.W.tabIn K "_law_floors_right" = some (c_tab__law_floors_right, P_tab__law_floors_right) := tabIn_of a__law_floors_right l__law_floors_right uc__law_floors_right ul__law_floors_right uv__law_floors_right
  have tb__law_sides_right : PySem.W.tabIn K "_law_sides_right" = some (c_tab__law_sides_right, P_tab__law_sides_right) := tabIn_of a__law_sides_right l__law_sides_right uc__law_sides_right ul__law_sides_right uv__law_sides_right
  have tt : ∀ p ∈ ([(c_tab__law_floors_right, P_tab__law_floors_right), (c_tab__law_sides_right, P_tab__law_sides_right)] : List (Addr × Addr)), (PySem.W.CodeHd h p.1 p.2 ∧ h.get? p.2 = some (PySem.W.tabObj #[])) ∧ K.lookup p.2 = none := by
    intro p hp
    simp only [List.mem_cons, List.not_mem_nil, or_false] at hp
    rcases hp with rfl | rfl
    · obtain ⟨dd, hd⟩ := Option.isSome_iff_exists.mp hr__law_floors_right
      exact ⟨TF hd tb__law_floors_right, nt__law_floors_right⟩
    · obtain ⟨dd, hd⟩ := Option.isSome_iff_exists.mp hr__law_sides_right
      exact ⟨TF hd tb__law_sides_right, nt__law_sides_right⟩
  have E : ErrAll K mg (clsE (errC C_BadNet C_BadDrawn C_BadSide C_BadPlay C_BadNumber C_BadFloor C_BadEnding C_BadOrder C_TooMany)) (errC C_BadNet C_BadDrawn C_BadSide C_BadPlay C_BadNumber C_BadFloor C_BadEnding C_BadOrder C_TooMany) := by
    refine ⟨fun c hc => rfl, fun c hc => ?_, fun c hc => ?_, fun c j hc hj => ?_, fun c hc => ?_, ⟨C_CloseError, PySem.W.mg_of X G ca_CloseError, fun c hc => ?_⟩⟩
    · exact match c, hc with
      | 0, _ => ⟨⟨_, _, _, _, PySem.F.excBase_ValueError, xe_BadNet⟩, PySem.W.mg_of X G ca_BadNet, xk_BadNet, xs_BadNet, xt_BadNet⟩
      | 1, _ => ⟨⟨_, _, _, _, PySem.F.excBase_ValueError, xe_BadDrawn⟩, PySem.W.mg_of X G ca_BadDrawn, xk_BadDrawn, xs_BadDrawn, xt_BadDrawn⟩
      | 2, _ => ⟨⟨_, _, _, _, PySem.F.excBase_ValueError, xe_BadSide⟩, PySem.W.mg_of X G ca_BadSide, xk_BadSide, xs_BadSide, xt_BadSide⟩
      | 3, _ => ⟨⟨_, _, _, _, PySem.F.excBase_ValueError, xe_BadPlay⟩, PySem.W.mg_of X G ca_BadPlay, xk_BadPlay, xs_BadPlay, xt_BadPlay⟩
      | 4, _ => ⟨⟨_, _, _, _, PySem.F.excBase_ValueError, xe_BadNumber⟩, PySem.W.mg_of X G ca_BadNumber, xk_BadNumber, xs_BadNumber, xt_BadNumber⟩
      | 5, _ => ⟨⟨_, _, _, _, PySem.F.excBase_ValueError, xe_BadFloor⟩, PySem.W.mg_of X G ca_BadFloor, xk_BadFloor, xs_BadFloor, xt_BadFloor⟩
      | 6, _ => ⟨⟨_, _, _, _, PySem.F.excBase_ValueError, xe_BadEnding⟩, PySem.W.mg_of X G ca_BadEnding, xk_BadEnding, xs_BadEnding, xt_BadEnding⟩
      | 7, _ => ⟨⟨_, _, _, _, PySem.F.excBase_ValueError, xe_BadOrder⟩, PySem.W.mg_of X G ca_BadOrder, xk_BadOrder, xs_BadOrder, xt_BadOrder⟩
      | 8, _ => ⟨⟨_, _, _, _, PySem.F.excBase_ValueError, xe_TooMany⟩, PySem.W.mg_of X G ca_TooMany, xk_TooMany, xs_TooMany, xt_TooMany⟩
      | n + 9, h => absurd h (by omega)
    · exact match c, hc with
      | 0, _ => ⟨xg_BadNet, xa_BadNet, xs_BadNet, xd_BadNet, xc_BadNet, xn_get, xn_tak, xo_BadNet⟩
      | 1, _ => ⟨xg_BadDrawn, xa_BadDrawn, xs_BadDrawn, xd_BadDrawn, xc_BadDrawn, xn_get, xn_tak, xo_BadDrawn⟩
      | 2, _ => ⟨xg_BadSide, xa_BadSide, xs_BadSide, xd_BadSide, xc_BadSide, xn_get, xn_tak, xo_BadSide⟩
      | 3, _ => ⟨xg_BadPlay, xa_BadPlay, xs_BadPlay, xd_BadPlay, xc_BadPlay, xn_get, xn_tak, xo_BadPlay⟩
      | 4, _ => ⟨xg_BadNumber, xa_BadNumber, xs_BadNumber, xd_BadNumber, xc_BadNumber, xn_get, xn_tak, xo_BadNumber⟩
      | 5, _ => ⟨xg_BadFloor, xa_BadFloor, xs_BadFloor, xd_BadFloor, xc_BadFloor, xn_get, xn_tak, xo_BadFloor⟩
      | 6, _ => ⟨xg_BadEnding, xa_BadEnding, xs_BadEnding, xd_BadEnding, xc_BadEnding, xn_get, xn_tak, xo_BadEnding⟩
      | 7, _ => ⟨xg_BadOrder, xa_BadOrder, xs_BadOrder, xd_BadOrder, xc_BadOrder, xn_get, xn_tak, xo_BadOrder⟩
      | 8, _ => ⟨xg_TooMany, xa_TooMany, xs_TooMany, xd_TooMany, xc_TooMany, xn_get, xn_tak, xo_TooMany⟩
      | n + 9, h => absurd h (by omega)
    · exact match c, j, hc, hj with
      | 0, 0, _, _ => ci_BadNet_BadNet
      | 0, 1, _, _ => ci_BadNet_BadDrawn
      | 0, 2, _, _ => ci_BadNet_BadSide
      | 0, 3, _, _ => ci_BadNet_BadPlay
      | 0, 4, _, _ => ci_BadNet_BadNumber
      | 0, 5, _, _ => ci_BadNet_BadFloor
      | 0, 6, _, _ => ci_BadNet_BadEnding
      | 0, 7, _, _ => ci_BadNet_BadOrder
      | 0, 8, _, _ => ci_BadNet_TooMany
      | 1, 0, _, _ => ci_BadDrawn_BadNet
      | 1, 1, _, _ => ci_BadDrawn_BadDrawn
      | 1, 2, _, _ => ci_BadDrawn_BadSide
      | 1, 3, _, _ => ci_BadDrawn_BadPlay
      | 1, 4, _, _ => ci_BadDrawn_BadNumber
      | 1, 5, _, _ => ci_BadDrawn_BadFloor
      | 1, 6, _, _ => ci_BadDrawn_BadEnding
      | 1, 7, _, _ => ci_BadDrawn_BadOrder
      | 1, 8, _, _ => ci_BadDrawn_TooMany
      | 2, 0, _, _ => ci_BadSide_BadNet
      | 2, 1, _, _ => ci_BadSide_BadDrawn
      | 2, 2, _, _ => ci_BadSide_BadSide
      | 2, 3, _, _ => ci_BadSide_BadPlay
      | 2, 4, _, _ => ci_BadSide_BadNumber
      | 2, 5, _, _ => ci_BadSide_BadFloor
      | 2, 6, _, _ => ci_BadSide_BadEnding
      | 2, 7, _, _ => ci_BadSide_BadOrder
      | 2, 8, _, _ => ci_BadSide_TooMany
      | 3, 0, _, _ => ci_BadPlay_BadNet
      | 3, 1, _, _ => ci_BadPlay_BadDrawn
      | 3, 2, _, _ => ci_BadPlay_BadSide
      | 3, 3, _, _ => ci_BadPlay_BadPlay
      | 3, 4, _, _ => ci_BadPlay_BadNumber
      | 3, 5, _, _ => ci_BadPlay_BadFloor
      | 3, 6, _, _ => ci_BadPlay_BadEnding
      | 3, 7, _, _ => ci_BadPlay_BadOrder
      | 3, 8, _, _ => ci_BadPlay_TooMany
      | 4, 0, _, _ => ci_BadNumber_BadNet
      | 4, 1, _, _ => ci_BadNumber_BadDrawn
      | 4, 2, _, _ => ci_BadNumber_BadSide
      | 4, 3, _, _ => ci_BadNumber_BadPlay
      | 4, 4, _, _ => ci_BadNumber_BadNumber
      | 4, 5, _, _ => ci_BadNumber_BadFloor
      | 4, 6, _, _ => ci_BadNumber_BadEnding
      | 4, 7, _, _ => ci_BadNumber_BadOrder
      | 4, 8, _, _ => ci_BadNumber_TooMany
      | 5, 0, _, _ => ci_BadFloor_BadNet
      | 5, 1, _, _ => ci_BadFloor_BadDrawn
      | 5, 2, _, _ => ci_BadFloor_BadSide
      | 5, 3, _, _ => ci_BadFloor_BadPlay
      | 5, 4, _, _ => ci_BadFloor_BadNumber
      | 5, 5, _, _ => ci_BadFloor_BadFloor
      | 5, 6, _, _ => ci_BadFloor_BadEnding
      | 5, 7, _, _ => ci_BadFloor_BadOrder
      | 5, 8, _, _ => ci_BadFloor_TooMany
      | 6, 0, _, _ => ci_BadEnding_BadNet
      | 6, 1, _, _ => ci_BadEnding_BadDrawn
      | 6, 2, _, _ => ci_BadEnding_BadSide
      | 6, 3, _, _ => ci_BadEnding_BadPlay
      | 6, 4, _, _ => ci_BadEnding_BadNumber
      | 6, 5, _, _ => ci_BadEnding_BadFloor
      | 6, 6, _, _ => ci_BadEnding_BadEnding
      | 6, 7, _, _ => ci_BadEnding_BadOrder
      | 6, 8, _, _ => ci_BadEnding_TooMany
      | 7, 0, _, _ => ci_BadOrder_BadNet
      | 7, 1, _, _ => ci_BadOrder_BadDrawn
      | 7, 2, _, _ => ci_BadOrder_BadSide
      | 7, 3, _, _ => ci_BadOrder_BadPlay
      | 7, 4, _, _ => ci_BadOrder_BadNumber
      | 7, 5, _, _ => ci_BadOrder_BadFloor
      | 7, 6, _, _ => ci_BadOrder_BadEnding
      | 7, 7, _, _ => ci_BadOrder_BadOrder
      | 7, 8, _, _ => ci_BadOrder_TooMany
      | 8, 0, _, _ => ci_TooMany_BadNet
      | 8, 1, _, _ => ci_TooMany_BadDrawn
      | 8, 2, _, _ => ci_TooMany_BadSide
      | 8, 3, _, _ => ci_TooMany_BadPlay
      | 8, 4, _, _ => ci_TooMany_BadNumber
      | 8, 5, _, _ => ci_TooMany_BadFloor
      | 8, 6, _, _ => ci_TooMany_BadEnding
      | 8, 7, _, _ => ci_TooMany_BadOrder
      | 8, 8, _, _ => ci_TooMany_TooMany
      | n + 9, _, h, _ => absurd h (by omega)
      | _, n + 9, _, h => absurd h (by omega)
    · exact match c, hc with
      | 0, _ => xv_BadNet
      | 1, _ => xv_BadDrawn
      | 2, _ => xv_BadSide
      | 3, _ => xv_BadPlay
      | 4, _ => xv_BadNumber
      | 5, _ => xv_BadFloor
      | 6, _ => xv_BadEnding
      | 7, _ => xv_BadOrder
      | 8, _ => xv_TooMany
      | n + 9, h => absurd h (by omega)
    · exact match c, hc with
      | 0, _ => PySem.W.exm_ref xs_CloseError xd_CloseError xt_CloseError xu_BadNet
      | 1, _ => PySem.W.exm_ref xs_CloseError xd_CloseError xt_CloseError xu_BadDrawn
      | 2, _ => PySem.W.exm_ref xs_CloseError xd_CloseError xt_CloseError xu_BadSide
      | 3, _ => PySem.W.exm_ref xs_CloseError xd_CloseError xt_CloseError xu_BadPlay
      | 4, _ => PySem.W.exm_ref xs_CloseError xd_CloseError xt_CloseError xu_BadNumber
      | 5, _ => PySem.W.exm_ref xs_CloseError xd_CloseError xt_CloseError xu_BadFloor
      | 6, _ => PySem.W.exm_ref xs_CloseError xd_CloseError xt_CloseError xu_BadEnding
      | 7, _ => PySem.W.exm_ref xs_CloseError xd_CloseError xt_CloseError xu_BadOrder
      | 8, _ => PySem.W.exm_ref xs_CloseError xd_CloseError xt_CloseError xu_TooMany
      | n + 9, h => absurd h (by omega)
  refine ⟨PySem.W.fnOf "law" "law" (defArgs s_law) (defBody s_law) (defScope s_law) .none kV_law dc_law pm_law an_law cd_law ct_law, [(c_tab__law_floors_right, P_tab__law_floors_right), (c_tab__law_sides_right, P_tab__law_sides_right)], spF ⟨l.prog, w, K⟩ (clsE (errC C_BadNet C_BadDrawn C_BadSide C_BadPlay C_BadNumber C_BadFloor C_BadEnding C_BadOrder C_TooMany)) 1 F_law_k14, fun p hp => (tt p hp).1.2, fun p hp => (tt p hp).2, fun p hp => (tt p hp).1.1, fun s v => .of_eq rfl, fun H a ns hl hb hH hS => ?_, fun base KB GB TB => ?_⟩
  · obtain ⟨M', e⟩ := law_is ns hl hb
    refine start_lawT (ts := [("_law_floors_right", P_tab__law_floors_right), ("_law_sides_right", P_tab__law_sides_right)]) hS nd_tab (fun t ht => ?_) e
    simp only [List.mem_cons, List.not_mem_nil, or_false] at ht
    rcases ht with rfl | rfl
    · exact ⟨⟨c_tab__law_floors_right, tb__law_floors_right⟩, hH (c_tab__law_floors_right, P_tab__law_floors_right) (by simp)⟩
    · exact ⟨⟨c_tab__law_sides_right, tb__law_sides_right⟩, hH (c_tab__law_sides_right, P_tab__law_sides_right) (by simp)⟩
  have T__law_floors_right : TabX K mg base "_law_floors_right" f__law_floors_right c_tab__law_floors_right P_tab__law_floors_right := ⟨tb__law_floors_right, TB (c_tab__law_floors_right, P_tab__law_floors_right) (by simp), a__law_floors_right⟩
  have T__law_sides_right : TabX K mg base "_law_sides_right" f__law_sides_right c_tab__law_sides_right P_tab__law_sides_right := ⟨tb__law_sides_right, TB (c_tab__law_sides_right, P_tab__law_sides_right) (by simp), a__law_sides_right⟩
  have F_is_whole := fun_mk (st := s_is_whole) (x := "is_whole") (qual := "is_whole") l_is_whole c_is_whole k_is_whole
  have C_is_whole : Cal l.prog w K mg base 1 "is_whole" ["thing"] (spF ⟨l.prog, w, K⟩ (clsE (errC C_BadNet C_BadDrawn C_BadSide C_BadPlay C_BadNumber C_BadFloor C_BadEnding C_BadOrder C_TooMany)) 1 BL.F_is_whole) := ⟨_, _, ok_is_whole F_is_whole B , PySem.W.mg_of X G a_is_whole, k_is_whole, F_is_whole.binds (ps := ["thing"]) fun _ _ _ _ _ _ us hl => match us, hl with | [_], _ => rfl⟩
  have F_is_side := fun_mk (st := s_is_side) (x := "is_side") (qual := "is_side") l_is_side c_is_side k_is_side
  have C_is_side : Cal l.prog w K mg base 2 "is_side" ["thing", "many"] (spF ⟨l.prog, w, K⟩ (clsE (errC C_BadNet C_BadDrawn C_BadSide C_BadPlay C_BadNumber C_BadFloor C_BadEnding C_BadOrder C_TooMany)) 2 BL.F_is_side) := ⟨_, _, ok_is_side F_is_side B C_is_whole, PySem.W.mg_of X G a_is_side, k_is_side, F_is_side.binds (ps := ["thing", "many"]) fun _ _ _ _ _ _ us hl => match us, hl with | [_, _], _ => rfl⟩
  have F_asked_net := fun_mk (st := s_asked_net) (x := "asked_net") (qual := "asked_net") l_asked_net c_asked_net k_asked_net
  have C_asked_net : Cal l.prog w K mg base 3 "asked_net" ["net"] (spF ⟨l.prog, w, K⟩ (clsE (errC C_BadNet C_BadDrawn C_BadSide C_BadPlay C_BadNumber C_BadFloor C_BadEnding C_BadOrder C_TooMany)) 1 BL.F_asked_net) := ⟨_, _, ok_asked_net F_asked_net B C_is_whole C_is_side, PySem.W.mg_of X G a_asked_net, k_asked_net, F_asked_net.binds (ps := ["net"]) fun _ _ _ _ _ _ us hl => match us, hl with | [_], _ => rfl⟩
  have F_is_rising := fun_mk (st := s_is_rising) (x := "is_rising") (qual := "is_rising") l_is_rising c_is_rising k_is_rising
  have C_is_rising : Cal l.prog w K mg base 2 "is_rising" ["thing", "many"] (spF ⟨l.prog, w, K⟩ (clsE (errC C_BadNet C_BadDrawn C_BadSide C_BadPlay C_BadNumber C_BadFloor C_BadEnding C_BadOrder C_TooMany)) 2 BL.F_is_rising) := ⟨_, _, ok_is_rising F_is_rising B C_is_whole, PySem.W.mg_of X G a_is_rising, k_is_rising, F_is_rising.binds (ps := ["thing", "many"]) fun _ _ _ _ _ _ us hl => match us, hl with | [_, _], _ => rfl⟩
  have F_asked_drawn := fun_mk (st := s_asked_drawn) (x := "asked_drawn") (qual := "asked_drawn") l_asked_drawn c_asked_drawn k_asked_drawn
  have C_asked_drawn : Cal l.prog w K mg base 4 "asked_drawn" ["net", "drawn"] (spF ⟨l.prog, w, K⟩ (clsE (errC C_BadNet C_BadDrawn C_BadSide C_BadPlay C_BadNumber C_BadFloor C_BadEnding C_BadOrder C_TooMany)) 2 BL.F_asked_drawn) := ⟨_, _, ok_asked_drawn F_asked_drawn B C_asked_net C_is_rising, PySem.W.mg_of X G a_asked_drawn, k_asked_drawn, F_asked_drawn.binds (ps := ["net", "drawn"]) fun _ _ _ _ _ _ us hl => match us, hl with | [_, _], _ => rfl⟩
  have F_open_of := fun_mk (st := s_open_of) (x := "open_of") (qual := "open_of") l_open_of c_open_of k_open_of
  have C_open_of : Cal l.prog w K mg base 1 "open_of" ["net", "drawn"] (spF ⟨l.prog, w, K⟩ (clsE (errC C_BadNet C_BadDrawn C_BadSide C_BadPlay C_BadNumber C_BadFloor C_BadEnding C_BadOrder C_TooMany)) 2 BL.F_open_of) := ⟨_, _, ok_open_of F_open_of B , PySem.W.mg_of X G a_open_of, k_open_of, F_open_of.binds (ps := ["net", "drawn"]) fun _ _ _ _ _ _ us hl => match us, hl with | [_, _], _ => rfl⟩
  have F_opened := fun_mk (st := s_opened) (x := "opened") (qual := "opened") l_opened c_opened k_opened
  have C_opened : Cal l.prog w K mg base 5 "opened" ["net", "drawn"] (spF ⟨l.prog, w, K⟩ (clsE (errC C_BadNet C_BadDrawn C_BadSide C_BadPlay C_BadNumber C_BadFloor C_BadEnding C_BadOrder C_TooMany)) 2 BL.F_opened) := ⟨_, _, ok_opened F_opened B C_asked_drawn C_open_of, PySem.W.mg_of X G a_opened, k_opened, F_opened.binds (ps := ["net", "drawn"]) fun _ _ _ _ _ _ us hl => match us, hl with | [_, _], _ => rfl⟩
  have F_free_of := fun_mk (st := s_free_of) (x := "free_of") (qual := "free_of") l_free_of c_free_of k_free_of
  have C_free_of : Cal l.prog w K mg base 1 "free_of" ["net", "drawn"] (spF ⟨l.prog, w, K⟩ (clsE (errC C_BadNet C_BadDrawn C_BadSide C_BadPlay C_BadNumber C_BadFloor C_BadEnding C_BadOrder C_TooMany)) 2 BL.F_free_of) := ⟨_, _, ok_free_of F_free_of B , PySem.W.mg_of X G a_free_of, k_free_of, F_free_of.binds (ps := ["net", "drawn"]) fun _ _ _ _ _ _ us hl => match us, hl with | [_, _], _ => rfl⟩
  have F_drawn_on := fun_mk (st := s_drawn_on) (x := "drawn_on") (qual := "drawn_on") l_drawn_on c_drawn_on k_drawn_on
  have C_drawn_on : Cal l.prog w K mg base 2 "drawn_on" ["net", "drawn", "side"] (spF ⟨l.prog, w, K⟩ (clsE (errC C_BadNet C_BadDrawn C_BadSide C_BadPlay C_BadNumber C_BadFloor C_BadEnding C_BadOrder C_TooMany)) 3 BL.F_drawn_on) := ⟨_, _, ok_drawn_on F_drawn_on B C_open_of, PySem.W.mg_of X G a_drawn_on, k_drawn_on, F_drawn_on.binds (ps := ["net", "drawn", "side"]) fun _ _ _ _ _ _ us hl => match us, hl with | [_, _, _], _ => rfl⟩
  have F_floor_net := fun_mk (st := s_floor_net) (x := "floor_net") (qual := "floor_net") l_floor_net c_floor_net k_floor_net
  have C_floor_net : Cal l.prog w K mg base 2 "floor_net" ["rows", "columns"] (spF ⟨l.prog, w, K⟩ (clsE (errC C_BadNet C_BadDrawn C_BadSide C_BadPlay C_BadNumber C_BadFloor C_BadEnding C_BadOrder C_TooMany)) 2 BL.F_floor_net) := ⟨_, _, ok_floor_net F_floor_net B C_is_whole, PySem.W.mg_of X G a_floor_net, k_floor_net, F_floor_net.binds (ps := ["rows", "columns"]) fun _ _ _ _ _ _ us hl => match us, hl with | [_, _], _ => rfl⟩
  have F_are_lengths := fun_mk (st := s_are_lengths) (x := "are_lengths") (qual := "are_lengths") l_are_lengths c_are_lengths k_are_lengths
  have C_are_lengths : Cal l.prog w K mg base 2 "are_lengths" ["thing", "least"] (spF ⟨l.prog, w, K⟩ (clsE (errC C_BadNet C_BadDrawn C_BadSide C_BadPlay C_BadNumber C_BadFloor C_BadEnding C_BadOrder C_TooMany)) 2 BL.F_are_lengths) := ⟨_, _, ok_are_lengths F_are_lengths B C_is_whole, PySem.W.mg_of X G a_are_lengths, k_are_lengths, F_are_lengths.binds (ps := ["thing", "least"]) fun _ _ _ _ _ _ us hl => match us, hl with | [_, _], _ => rfl⟩
  have F_asked_ending := fun_mk (st := s_asked_ending) (x := "asked_ending") (qual := "asked_ending") l_asked_ending c_asked_ending k_asked_ending
  have C_asked_ending : Cal l.prog w K mg base 3 "asked_ending" ["chains", "rings"] (spF ⟨l.prog, w, K⟩ (clsE (errC C_BadNet C_BadDrawn C_BadSide C_BadPlay C_BadNumber C_BadFloor C_BadEnding C_BadOrder C_TooMany)) 2 BL.F_asked_ending) := ⟨_, _, ok_asked_ending F_asked_ending B C_are_lengths, PySem.W.mg_of X G a_asked_ending, k_asked_ending, F_asked_ending.binds (ps := ["chains", "rings"]) fun _ _ _ _ _ _ us hl => match us, hl with | [_, _], _ => rfl⟩
  have F_pieces_of := fun_mk (st := s_pieces_of) (x := "pieces_of") (qual := "pieces_of") l_pieces_of c_pieces_of k_pieces_of
  have C_pieces_of : Cal l.prog w K mg base 1 "pieces_of" ["chains", "rings"] (spF ⟨l.prog, w, K⟩ (clsE (errC C_BadNet C_BadDrawn C_BadSide C_BadPlay C_BadNumber C_BadFloor C_BadEnding C_BadOrder C_TooMany)) 2 BL.F_pieces_of) := ⟨_, _, ok_pieces_of F_pieces_of B , PySem.W.mg_of X G a_pieces_of, k_pieces_of, F_pieces_of.binds (ps := ["chains", "rings"]) fun _ _ _ _ _ _ us hl => match us, hl with | [_, _], _ => rfl⟩
  have F_taken_of := fun_mk (st := s_taken_of) (x := "taken_of") (qual := "taken_of") l_taken_of c_taken_of k_taken_of
  have C_taken_of : Cal l.prog w K mg base 1 "taken_of" ["kind", "length", "rest"] (spF ⟨l.prog, w, K⟩ (clsE (errC C_BadNet C_BadDrawn C_BadSide C_BadPlay C_BadNumber C_BadFloor C_BadEnding C_BadOrder C_TooMany)) 3 BL.F_taken_of) := ⟨_, _, ok_taken_of F_taken_of B , PySem.W.mg_of X G a_taken_of, k_taken_of, F_taken_of.binds (ps := ["kind", "length", "rest"]) fun _ _ _ _ _ _ us hl => match us, hl with | [_, _, _], _ => rfl⟩
  have F_ending_of := fun_mk (st := s_ending_of) (x := "ending_of") (qual := "ending_of") l_ending_of c_ending_of k_ending_of
  have C_ending_of : Cal l.prog w K mg base 21 "ending_of" ["chains", "rings", "known"] (spF ⟨l.prog, w, K⟩ (clsE (errC C_BadNet C_BadDrawn C_BadSide C_BadPlay C_BadNumber C_BadFloor C_BadEnding C_BadOrder C_TooMany)) 3 (BL.F_ending_of 20)) := ok_ending_of F_ending_of (fun h => ⟨_, _, h, PySem.W.mg_of X G a_ending_of, k_ending_of, F_ending_of.binds (ps := ["chains", "rings", "known"]) fun _ _ _ _ _ _ us hl => match us, hl with | [_, _, _], _ => rfl⟩) B C_pieces_of C_taken_of 20
  have F_ending := fun_mk (st := s_ending) (x := "ending") (qual := "ending") l_ending c_ending k_ending
  have C_ending : Cal l.prog w K mg base 22 "ending" ["chains", "rings"] (spF ⟨l.prog, w, K⟩ (clsE (errC C_BadNet C_BadDrawn C_BadSide C_BadPlay C_BadNumber C_BadFloor C_BadEnding C_BadOrder C_TooMany)) 2 BL.F_ending) := ⟨_, _, ok_ending F_ending B C_asked_ending C_ending_of, PySem.W.mg_of X G a_ending, k_ending, F_ending.binds (ps := ["chains", "rings"]) fun _ _ _ _ _ _ us hl => match us, hl with | [_, _], _ => rfl⟩
  have F_openings := fun_mk (st := s_openings) (x := "openings") (qual := "openings") l_openings c_openings k_openings
  have C_openings : Cal l.prog w K mg base 22 "openings" ["chains", "rings"] (spF ⟨l.prog, w, K⟩ (clsE (errC C_BadNet C_BadDrawn C_BadSide C_BadPlay C_BadNumber C_BadFloor C_BadEnding C_BadOrder C_TooMany)) 2 BL.F_openings) := ⟨_, _, ok_openings F_openings B C_asked_ending C_ending_of C_pieces_of C_taken_of, PySem.W.mg_of X G a_openings, k_openings, F_openings.binds (ps := ["chains", "rings"]) fun _ _ _ _ _ _ us hl => match us, hl with | [_, _], _ => rfl⟩
  have F_reply := fun_mk (st := s_reply) (x := "reply") (qual := "reply") l_reply c_reply k_reply
  have C_reply : Cal l.prog w K mg base 22 "reply" ["kind", "length", "chains", "rings"] (spF ⟨l.prog, w, K⟩ (clsE (errC C_BadNet C_BadDrawn C_BadSide C_BadPlay C_BadNumber C_BadFloor C_BadEnding C_BadOrder C_TooMany)) 4 BL.F_reply) := ⟨_, _, ok_reply F_reply B C_is_whole C_asked_ending C_ending_of, PySem.W.mg_of X G a_reply, k_reply, F_reply.binds (ps := ["kind", "length", "chains", "rings"]) fun _ _ _ _ _ _ us hl => match us, hl with | [_, _, _, _], _ => rfl⟩
  have F_ending_net := fun_mk (st := s_ending_net) (x := "ending_net") (qual := "ending_net") l_ending_net c_ending_net k_ending_net
  have C_ending_net : Cal l.prog w K mg base 4 "ending_net" ["chains", "rings"] (spF ⟨l.prog, w, K⟩ (clsE (errC C_BadNet C_BadDrawn C_BadSide C_BadPlay C_BadNumber C_BadFloor C_BadEnding C_BadOrder C_TooMany)) 2 BL.F_ending_net) := ⟨_, _, ok_ending_net F_ending_net B C_asked_ending, PySem.W.mg_of X G a_ending_net, k_ending_net, F_ending_net.binds (ps := ["chains", "rings"]) fun _ _ _ _ _ _ us hl => match us, hl with | [_, _], _ => rfl⟩
  have F_side_worth := fun_mk (st := s_side_worth) (x := "side_worth") (qual := "side_worth") l_side_worth c_side_worth k_side_worth
  have F_worth_of := fun_mk (st := s_worth_of) (x := "worth_of") (qual := "worth_of") l_worth_of c_worth_of k_worth_of
  have C_worth_of : Cal l.prog w K mg base 42 "worth_of" ["net", "drawn", "known"] (spF ⟨l.prog, w, K⟩ (clsE (errC C_BadNet C_BadDrawn C_BadSide C_BadPlay C_BadNumber C_BadFloor C_BadEnding C_BadOrder C_TooMany)) 3 (BL.F_worth_of 20)) := ok_worth_of F_side_worth (fun h => ⟨_, _, h, PySem.W.mg_of X G a_side_worth, k_side_worth, F_side_worth.binds (ps := ["net", "drawn", "side", "known"]) fun _ _ _ _ _ _ us hl => match us, hl with | [_, _, _, _], _ => rfl⟩) F_worth_of (fun h => ⟨_, _, h, PySem.W.mg_of X G a_worth_of, k_worth_of, F_worth_of.binds (ps := ["net", "drawn", "known"]) fun _ _ _ _ _ _ us hl => match us, hl with | [_, _, _], _ => rfl⟩) B C_free_of C_drawn_on 20
  have C_side_worth : Cal l.prog w K mg base 43 "side_worth" ["net", "drawn", "side", "known"] (spF ⟨l.prog, w, K⟩ (clsE (errC C_BadNet C_BadDrawn C_BadSide C_BadPlay C_BadNumber C_BadFloor C_BadEnding C_BadOrder C_TooMany)) 4 (BL.F_side_worth (BL.F_worth_of 20))) := ⟨_, _, ok_side_worth (k := 42) (by decide) F_side_worth B C_drawn_on C_worth_of, PySem.W.mg_of X G a_side_worth, k_side_worth, F_side_worth.binds (ps := ["net", "drawn", "side", "known"]) fun _ _ _ _ _ _ us hl => match us, hl with | [_, _, _, _], _ => rfl⟩
  have F_worth := fun_mk (st := s_worth) (x := "worth") (qual := "worth") l_worth c_worth k_worth
  have C_worth : Cal l.prog w K mg base 43 "worth" ["net", "drawn"] (spF ⟨l.prog, w, K⟩ (clsE (errC C_BadNet C_BadDrawn C_BadSide C_BadPlay C_BadNumber C_BadFloor C_BadEnding C_BadOrder C_TooMany)) 2 BL.F_worth) := ⟨_, _, ok_worth F_worth B C_asked_drawn C_worth_of, PySem.W.mg_of X G a_worth, k_worth, F_worth.binds (ps := ["net", "drawn"]) fun _ _ _ _ _ _ us hl => match us, hl with | [_, _], _ => rfl⟩
  have F_best_of := fun_mk (st := s_best_of) (x := "best_of") (qual := "best_of") l_best_of c_best_of k_best_of
  have C_best_of : Cal l.prog w K mg base 44 "best_of" ["net", "drawn", "known"] (spF ⟨l.prog, w, K⟩ (clsE (errC C_BadNet C_BadDrawn C_BadSide C_BadPlay C_BadNumber C_BadFloor C_BadEnding C_BadOrder C_TooMany)) 3 BL.F_best_of) := ⟨_, _, ok_best_of F_best_of B C_worth_of C_free_of C_side_worth, PySem.W.mg_of X G a_best_of, k_best_of, F_best_of.binds (ps := ["net", "drawn", "known"]) fun _ _ _ _ _ _ us hl => match us, hl with | [_, _, _], _ => rfl⟩
  have F_best := fun_mk (st := s_best) (x := "best") (qual := "best") l_best c_best k_best
  have C_best : Cal l.prog w K mg base 45 "best" ["net", "drawn"] (spF ⟨l.prog, w, K⟩ (clsE (errC C_BadNet C_BadDrawn C_BadSide C_BadPlay C_BadNumber C_BadFloor C_BadEnding C_BadOrder C_TooMany)) 2 BL.F_best) := ⟨_, _, ok_best F_best B C_asked_drawn C_best_of, PySem.W.mg_of X G a_best, k_best, F_best.binds (ps := ["net", "drawn"]) fun _ _ _ _ _ _ us hl => match us, hl with | [_, _], _ => rfl⟩
  have F_plays_of := fun_mk (st := s_plays_of) (x := "plays_of") (qual := "plays_of") l_plays_of c_plays_of k_plays_of
  have C_plays_of : Cal l.prog w K mg base 64 "plays_of" ["net", "drawn", "known", "counted"] (spF ⟨l.prog, w, K⟩ (clsE (errC C_BadNet C_BadDrawn C_BadSide C_BadPlay C_BadNumber C_BadFloor C_BadEnding C_BadOrder C_TooMany)) 4 (BL.F_plays_of 20)) := ok_plays_of F_plays_of (fun h => ⟨_, _, h, PySem.W.mg_of X G a_plays_of, k_plays_of, F_plays_of.binds (ps := ["net", "drawn", "known", "counted"]) fun _ _ _ _ _ _ us hl => match us, hl with | [_, _, _, _], _ => rfl⟩) B C_best_of 20
  have F_best_plays := fun_mk (st := s_best_plays) (x := "best_plays") (qual := "best_plays") l_best_plays c_best_plays k_best_plays
  have C_best_plays : Cal l.prog w K mg base 65 "best_plays" ["net", "drawn"] (spF ⟨l.prog, w, K⟩ (clsE (errC C_BadNet C_BadDrawn C_BadSide C_BadPlay C_BadNumber C_BadFloor C_BadEnding C_BadOrder C_TooMany)) 2 BL.F_best_plays) := ⟨_, _, ok_best_plays F_best_plays B C_asked_drawn C_plays_of, PySem.W.mg_of X G a_best_plays, k_best_plays, F_best_plays.binds (ps := ["net", "drawn"]) fun _ _ _ _ _ _ us hl => match us, hl with | [_, _], _ => rfl⟩
  have F_play_by := fun_mk (st := s_play_by) (x := "play_by") (qual := "play_by") l_play_by c_play_by k_play_by
  have C_play_by : Cal l.prog w K mg base 65 "play_by" ["net", "drawn", "number"] (spF ⟨l.prog, w, K⟩ (clsE (errC C_BadNet C_BadDrawn C_BadSide C_BadPlay C_BadNumber C_BadFloor C_BadEnding C_BadOrder C_TooMany)) 3 BL.F_play_by) := ⟨_, _, ok_play_by F_play_by B C_asked_drawn C_is_whole C_plays_of C_best_of, PySem.W.mg_of X G a_play_by, k_play_by, F_play_by.binds (ps := ["net", "drawn", "number"]) fun _ _ _ _ _ _ us hl => match us, hl with | [_, _, _], _ => rfl⟩
  have F__law_refused := fun_mk (st := s__law_refused) (x := "_law_refused") (qual := "_law_refused") l__law_refused c__law_refused k__law_refused
  have C__law_refused : ∀ k : Nat, RefOk l.prog w K mg base k (clsE (errC C_BadNet C_BadDrawn C_BadSide C_BadPlay C_BadNumber C_BadFloor C_BadEnding C_BadOrder C_TooMany)) s__law_refused := ok__law_refused F__law_refused B E (PySem.W.mg_of X G a__law_refused) k__law_refused (F__law_refused.binds (ps := ["_law_ask", "_law_thing", "_law_due"]) fun _ _ _ _ _ _ us hl => match us, hl with | [_, _, _], _ => rfl)
  have F_floor_net_X := fun_mk (st := s_floor_net_X) (x := "floor_net") (qual := "floor_net") l_floor_net c_floor_net k_floor_net
  have C_floor_net_X : XCal l.prog w K mg base 2 "floor_net" ["rows", "columns"] (spF ⟨l.prog, w, K⟩ (clsE (errC C_BadNet C_BadDrawn C_BadSide C_BadPlay C_BadNumber C_BadFloor C_BadEnding C_BadOrder C_TooMany)) 2 BL.F_floor_net_X) := ⟨_, _, ok_floor_net_X F_floor_net_X B E C_is_whole, PySem.W.mg_of X G a_floor_net, k_floor_net, F_floor_net_X.binds (ps := ["rows", "columns"]) fun _ _ _ _ _ _ us hl => match us, hl with | [_, _], _ => rfl⟩
  have F__law_floors_right := fun_mk (st := s__law_floors_right) (x := "_law_floors_right") (qual := "_law_floors_right") l__law_floors_right c__law_floors_right k__law_floors_right
  have C__law_floors_right : Cal l.prog w K mg base 5 "_law_floors_right" [] (spF ⟨l.prog, w, K⟩ (clsE (errC C_BadNet C_BadDrawn C_BadSide C_BadPlay C_BadNumber C_BadFloor C_BadEnding C_BadOrder C_TooMany)) 0 BL.F__law_floors_right_k14) := ⟨_, _, ok__law_floors_right F__law_floors_right B T__law_floors_right C_floor_net_X C__law_refused C_floor_net, PySem.W.mg_of X G a__law_floors_right, k__law_floors_right, F__law_floors_right.binds (ps := []) fun _ _ _ _ _ _ us hl => match us, hl with | [], _ => rfl⟩
  have F__law_endings_right := fun_mk (st := s__law_endings_right) (x := "_law_endings_right") (qual := "_law_endings_right") l__law_endings_right c__law_endings_right k__law_endings_right
  have C__law_endings_right : Cal l.prog w K mg base 23 "_law_endings_right" ["_law_more"] (spF ⟨l.prog, w, K⟩ (clsE (errC C_BadNet C_BadDrawn C_BadSide C_BadPlay C_BadNumber C_BadFloor C_BadEnding C_BadOrder C_TooMany)) 1 BL.F__law_endings_right_k14) := ⟨_, _, ok__law_endings_right F__law_endings_right B C_ending C_openings C_ending_net C_reply, PySem.W.mg_of X G a__law_endings_right, k__law_endings_right, F__law_endings_right.binds (ps := ["_law_more"]) fun _ _ _ _ _ _ us hl => match us, hl with | [_], _ => rfl⟩
  have F_play_by_X := fun_mk (st := s_play_by_X) (x := "play_by") (qual := "play_by") l_play_by c_play_by k_play_by
  have C_play_by_X : XCal l.prog w K mg base 65 "play_by" ["net", "drawn", "number"] (spF ⟨l.prog, w, K⟩ (clsE (errC C_BadNet C_BadDrawn C_BadSide C_BadPlay C_BadNumber C_BadFloor C_BadEnding C_BadOrder C_TooMany)) 3 BL.F_play_by_X) := ⟨_, _, ok_play_by_X F_play_by_X B E C_asked_drawn C_is_whole C_plays_of C_best_of, PySem.W.mg_of X G a_play_by, k_play_by, F_play_by_X.binds (ps := ["net", "drawn", "number"]) fun _ _ _ _ _ _ us hl => match us, hl with | [_, _, _], _ => rfl⟩
  have F__law_sides_right := fun_mk (st := s__law_sides_right) (x := "_law_sides_right") (qual := "_law_sides_right") l__law_sides_right c__law_sides_right k__law_sides_right
  have C__law_sides_right : Cal l.prog w K mg base 68 "_law_sides_right" [] (spF ⟨l.prog, w, K⟩ (clsE (errC C_BadNet C_BadDrawn C_BadSide C_BadPlay C_BadNumber C_BadFloor C_BadEnding C_BadOrder C_TooMany)) 0 BL.F__law_sides_right) := ⟨_, _, ok__law_sides_right F__law_sides_right B T__law_sides_right C_opened C_best C_best_plays C_worth C_play_by C_play_by_X C__law_refused, PySem.W.mg_of X G a__law_sides_right, k__law_sides_right, F__law_sides_right.binds (ps := []) fun _ _ _ _ _ _ us hl => match us, hl with | [], _ => rfl⟩
  have F_law := fun_mk (st := s_law) (x := "law") (qual := "law") l_law c_law k_law
  exact ok_law F_law B C__law_floors_right C__law_endings_right C__law_sides_right
theorem walk {l : PySem.W.OpenLaw} {q : Program} {loose : List Str} {XP : (Str → Option Value) → Heap → Prop} {YP : World → Heap → Prop} {d : DefRec} {K : Params → PySem.W.Frag} (hn : l.most = some 63) (hdf : d.params.defaults = [])
    (hY : ∀ (w : World) (h : Heap), YP w h → (K w.params).In h)
    (F : ∀ (w : World) (mg : Str → Option Value) (fa : Addr) (h : Heap), (K w.params).In h → h.Ns mainGlobals mg → mg d.name = some (.ref fa) →
      (∀ {d' : DefRec} {y : Str} {c P : Addr}, (PyProof.Rows.recsOf q).find? (fun e => e.name == y) = some d' → PySem.W.tabIn (K w.params) y = some (c, P) → PySem.W.CodeHd h c P ∧ h.get? P = some (PySem.W.tabObj #[])) → LamX.LawAtS l w (K w.params) CX0 69 63 "_law_script" mg fa h) :
    PySem.W.WalkO q loose XP YP l.row.toRowW d [] (fun f vs => PySem.call f vs) := walkT hn (by decide) hdf ⟨rfl, by decide, by decide⟩ hY F
end BL
open PySem PySem.W PyProof.Rows in
set_option maxRecDepth 100000 in
set_option maxHeartbeats 0 in
theorem PySem.Challenge.cw_boxclose_k14_whole_again_holds : PySem.Challenge.rw_boxclose_k14_whole_again.Holds := by
  w_on; o_law; k_head; (case hw => w_witness2)
  k_fill
  refine BL.walk (l := PySem.Challenge.rw_boxclose_k14_whole_again) rfl rfl (fun w h Y => PySem.W.km_in_of Y) ?F
  case F =>
    intro w mg fa h KX G hmg TF
    refine' BL.all_mk KX G hmg TF ?ca_BadNet ?ca_BadDrawn ?ca_BadSide ?ca_BadPlay ?ca_BadNumber ?ca_BadFloor ?ca_BadEnding ?ca_BadOrder ?ca_TooMany ?ca_CloseError ?xe_BadNet ?xk_BadNet ?xs_BadNet ?xt_BadNet ?xg_BadNet ?xa_BadNet ?xd_BadNet ?xc_BadNet ?xo_BadNet ?xv_BadNet ?xu_BadNet ?ci_BadNet_BadNet ?ci_BadNet_BadDrawn ?ci_BadNet_BadSide ?ci_BadNet_BadPlay ?ci_BadNet_BadNumber ?ci_BadNet_BadFloor ?ci_BadNet_BadEnding ?ci_BadNet_BadOrder ?ci_BadNet_TooMany ?xe_BadDrawn ?xk_BadDrawn ?xs_BadDrawn ?xt_BadDrawn ?xg_BadDrawn ?xa_BadDrawn ?xd_BadDrawn ?xc_BadDrawn ?xo_BadDrawn ?xv_BadDrawn ?xu_BadDrawn ?ci_BadDrawn_BadNet ?ci_BadDrawn_BadDrawn ?ci_BadDrawn_BadSide ?ci_BadDrawn_BadPlay ?ci_BadDrawn_BadNumber ?ci_BadDrawn_BadFloor ?ci_BadDrawn_BadEnding ?ci_BadDrawn_BadOrder ?ci_BadDrawn_TooMany ?xe_BadSide ?xk_BadSide ?xs_BadSide ?xt_BadSide ?xg_BadSide ?xa_BadSide ?xd_BadSide ?xc_BadSide ?xo_BadSide ?xv_BadSide ?xu_BadSide ?ci_BadSide_BadNet ?ci_BadSide_BadDrawn ?ci_BadSide_BadSide ?ci_BadSide_BadPlay ?ci_BadSide_BadNumber ?ci_BadSide_BadFloor ?ci_BadSide_BadEnding ?ci_BadSide_BadOrder ?ci_BadSide_TooMany ?xe_BadPlay ?xk_BadPlay ?xs_BadPlay ?xt_BadPlay ?xg_BadPlay ?xa_BadPlay ?xd_BadPlay ?xc_BadPlay ?xo_BadPlay ?xv_BadPlay ?xu_BadPlay ?ci_BadPlay_BadNet ?ci_BadPlay_BadDrawn ?ci_BadPlay_BadSide ?ci_BadPlay_BadPlay ?ci_BadPlay_BadNumber ?ci_BadPlay_BadFloor ?ci_BadPlay_BadEnding ?ci_BadPlay_BadOrder ?ci_BadPlay_TooMany ?xe_BadNumber ?xk_BadNumber ?xs_BadNumber ?xt_BadNumber ?xg_BadNumber ?xa_BadNumber ?xd_BadNumber ?xc_BadNumber ?xo_BadNumber ?xv_BadNumber ?xu_BadNumber ?ci_BadNumber_BadNet ?ci_BadNumber_BadDrawn ?ci_BadNumber_BadSide ?ci_BadNumber_BadPlay ?ci_BadNumber_BadNumber ?ci_BadNumber_BadFloor ?ci_BadNumber_BadEnding ?ci_BadNumber_BadOrder ?ci_BadNumber_TooMany ?xe_BadFloor ?xk_BadFloor ?xs_BadFloor ?xt_BadFloor ?xg_BadFloor ?xa_BadFloor ?xd_BadFloor ?xc_BadFloor ?xo_BadFloor ?xv_BadFloor ?xu_BadFloor ?ci_BadFloor_BadNet ?ci_BadFloor_BadDrawn ?ci_BadFloor_BadSide ?ci_BadFloor_BadPlay ?ci_BadFloor_BadNumber ?ci_BadFloor_BadFloor ?ci_BadFloor_BadEnding ?ci_BadFloor_BadOrder ?ci_BadFloor_TooMany ?xe_BadEnding ?xk_BadEnding ?xs_BadEnding ?xt_BadEnding ?xg_BadEnding ?xa_BadEnding ?xd_BadEnding ?xc_BadEnding ?xo_BadEnding ?xv_BadEnding ?xu_BadEnding ?ci_BadEnding_BadNet ?ci_BadEnding_BadDrawn ?ci_BadEnding_BadSide ?ci_BadEnding_BadPlay ?ci_BadEnding_BadNumber ?ci_BadEnding_BadFloor ?ci_BadEnding_BadEnding ?ci_BadEnding_BadOrder ?ci_BadEnding_TooMany ?xe_BadOrder ?xk_BadOrder ?xs_BadOrder ?xt_BadOrder ?xg_BadOrder ?xa_BadOrder ?xd_BadOrder ?xc_BadOrder ?xo_BadOrder ?xv_BadOrder ?xu_BadOrder ?ci_BadOrder_BadNet ?ci_BadOrder_BadDrawn ?ci_BadOrder_BadSide ?ci_BadOrder_BadPlay ?ci_BadOrder_BadNumber ?ci_BadOrder_BadFloor ?ci_BadOrder_BadEnding ?ci_BadOrder_BadOrder ?ci_BadOrder_TooMany ?xe_TooMany ?xk_TooMany ?xs_TooMany ?xt_TooMany ?xg_TooMany ?xa_TooMany ?xd_TooMany ?xc_TooMany ?xo_TooMany ?xv_TooMany ?xu_TooMany ?ci_TooMany_BadNet ?ci_TooMany_BadDrawn ?ci_TooMany_BadSide ?ci_TooMany_BadPlay ?ci_TooMany_BadNumber ?ci_TooMany_BadFloor ?ci_TooMany_BadEnding ?ci_TooMany_BadOrder ?ci_TooMany_TooMany ?xn_get ?xn_tak ?xs_CloseError ?xd_CloseError ?xt_CloseError ?a_is_whole ?l_is_whole ?c_is_whole ?k_is_whole ?a_is_side ?l_is_side ?c_is_side ?k_is_side ?a_asked_net ?l_asked_net ?c_asked_net ?k_asked_net ?a_is_rising ?l_is_rising ?c_is_rising ?k_is_rising ?a_asked_drawn ?l_asked_drawn ?c_asked_drawn ?k_asked_drawn ?a_open_of ?l_open_of ?c_open_of ?k_open_of ?a_opened ?l_opened ?c_opened ?k_opened ?a_free_of ?l_free_of ?c_free_of ?k_free_of ?a_drawn_on ?l_drawn_on ?c_drawn_on ?k_drawn_on ?a_floor_net ?l_floor_net ?c_floor_net ?k_floor_net ?a_are_lengths ?l_are_lengths ?c_are_lengths ?k_are_lengths ?a_asked_ending ?l_asked_ending ?c_asked_ending ?k_asked_ending ?a_pieces_of ?l_pieces_of ?c_pieces_of ?k_pieces_of ?a_taken_of ?l_taken_of ?c_taken_of ?k_taken_of ?a_ending_of ?l_ending_of ?c_ending_of ?k_ending_of ?a_ending ?l_ending ?c_ending ?k_ending ?a_openings ?l_openings ?c_openings ?k_openings ?a_reply ?l_reply ?c_reply ?k_reply ?a_ending_net ?l_ending_net ?c_ending_net ?k_ending_net ?a_side_worth ?l_side_worth ?c_side_worth ?k_side_worth ?a_worth_of ?l_worth_of ?c_worth_of ?k_worth_of ?a_worth ?l_worth ?c_worth ?k_worth ?a_best_of ?l_best_of ?c_best_of ?k_best_of ?a_best ?l_best ?c_best ?k_best ?a_plays_of ?l_plays_of ?c_plays_of ?k_plays_of ?a_best_plays ?l_best_plays ?c_best_plays ?k_best_plays ?a_play_by ?l_play_by ?c_play_by ?k_play_by ?a__law_refused ?l__law_refused ?c__law_refused ?k__law_refused ?a__law_floors_right ?l__law_floors_right ?c__law_floors_right ?k__law_floors_right ?a__law_endings_right ?l__law_endings_right ?c__law_endings_right ?k__law_endings_right ?a__law_sides_right ?l__law_sides_right ?c__law_sides_right ?k__law_sides_right ?a_law ?l_law ?c_law ?k_law ?uc__law_floors_right ?ul__law_floors_right ?uv__law_floors_right ?nt__law_floors_right ?uc__law_sides_right ?ul__law_sides_right ?uv__law_sides_right ?nt__law_sides_right ?nd_tab ?hr__law_floors_right ?hr__law_sides_right ?zb_ValueError ?zb_abs ?zb_all ?zb_any ?zb_bool ?zb_enumerate ?zb_int ?zb_isinstance ?zb_len ?zb_list ?zb_max ?zb_range ?zb_sorted ?zb_str ?zb_sum ?zb_tuple ?zc_LONGEST ?zc_MOST_BOXES ?zc_MOST_PIECES ?zc_MOST_SIDES ?ta_LEAST ?tl_LEAST ?tq_LEAST ?ts_LEAST ?te_LEAST ?ta_LEFT ?tl_LEFT ?tq_LEFT ?ts_LEFT ?te_LEFT
    (case ca_BadNet => k_is)
    (case ca_BadDrawn => k_is)
    (case ca_BadSide => k_is)
    (case ca_BadPlay => k_is)
    (case ca_BadNumber => k_is)
    (case ca_BadFloor => k_is)
    (case ca_BadEnding => k_is)
    (case ca_BadOrder => k_is)
    (case ca_TooMany => k_is)
    (case ca_CloseError => k_is)
    (case xe_BadNet => k_exc)
    (case xk_BadNet => k_is)
    (case xs_BadNet => k_is)
    (case xt_BadNet => k_is)
    (case xg_BadNet => k_is)
    (case xa_BadNet => k_is)
    (case xd_BadNet => k_is)
    (case xc_BadNet => k_is)
    (case xo_BadNet => k_is)
    (case xv_BadNet => kit_is)
    (case xu_BadNet => k_is)
    (case ci_BadNet_BadNet => kit_is)
    (case ci_BadNet_BadDrawn => kit_is)
    (case ci_BadNet_BadSide => kit_is)
    (case ci_BadNet_BadPlay => kit_is)
    (case ci_BadNet_BadNumber => kit_is)
    (case ci_BadNet_BadFloor => kit_is)
    (case ci_BadNet_BadEnding => kit_is)
    (case ci_BadNet_BadOrder => kit_is)
    (case ci_BadNet_TooMany => kit_is)
    (case xe_BadDrawn => k_exc)
    (case xk_BadDrawn => k_is)
    (case xs_BadDrawn => k_is)
    (case xt_BadDrawn => k_is)
    (case xg_BadDrawn => k_is)
    (case xa_BadDrawn => k_is)
    (case xd_BadDrawn => k_is)
    (case xc_BadDrawn => k_is)
    (case xo_BadDrawn => k_is)
    (case xv_BadDrawn => kit_is)
    (case xu_BadDrawn => k_is)
    (case ci_BadDrawn_BadNet => kit_is)
    (case ci_BadDrawn_BadDrawn => kit_is)
    (case ci_BadDrawn_BadSide => kit_is)
    (case ci_BadDrawn_BadPlay => kit_is)
    (case ci_BadDrawn_BadNumber => kit_is)
    (case ci_BadDrawn_BadFloor => kit_is)
    (case ci_BadDrawn_BadEnding => kit_is)
    (case ci_BadDrawn_BadOrder => kit_is)
    (case ci_BadDrawn_TooMany => kit_is)
    (case xe_BadSide => k_exc)
    (case xk_BadSide => k_is)
    (case xs_BadSide => k_is)
    (case xt_BadSide => k_is)
    (case xg_BadSide => k_is)
    (case xa_BadSide => k_is)
    (case xd_BadSide => k_is)
    (case xc_BadSide => k_is)
    (case xo_BadSide => k_is)
    (case xv_BadSide => kit_is)
    (case xu_BadSide => k_is)
    (case ci_BadSide_BadNet => kit_is)
    (case ci_BadSide_BadDrawn => kit_is)
    (case ci_BadSide_BadSide => kit_is)
    (case ci_BadSide_BadPlay => kit_is)
    (case ci_BadSide_BadNumber => kit_is)
    (case ci_BadSide_BadFloor => kit_is)
    (case ci_BadSide_BadEnding => kit_is)
    (case ci_BadSide_BadOrder => kit_is)
    (case ci_BadSide_TooMany => kit_is)
    (case xe_BadPlay => k_exc)
    (case xk_BadPlay => k_is)
    (case xs_BadPlay => k_is)
    (case xt_BadPlay => k_is)
    (case xg_BadPlay => k_is)
    (case xa_BadPlay => k_is)
    (case xd_BadPlay => k_is)
    (case xc_BadPlay => k_is)
    (case xo_BadPlay => k_is)
    (case xv_BadPlay => kit_is)
    (case xu_BadPlay => k_is)
    (case ci_BadPlay_BadNet => kit_is)
    (case ci_BadPlay_BadDrawn => kit_is)
    (case ci_BadPlay_BadSide => kit_is)
    (case ci_BadPlay_BadPlay => kit_is)
    (case ci_BadPlay_BadNumber => kit_is)
    (case ci_BadPlay_BadFloor => kit_is)
    (case ci_BadPlay_BadEnding => kit_is)
    (case ci_BadPlay_BadOrder => kit_is)
    (case ci_BadPlay_TooMany => kit_is)
    (case xe_BadNumber => k_exc)
    (case xk_BadNumber => k_is)
    (case xs_BadNumber => k_is)
    (case xt_BadNumber => k_is)
    (case xg_BadNumber => k_is)
    (case xa_BadNumber => k_is)
    (case xd_BadNumber => k_is)
    (case xc_BadNumber => k_is)
    (case xo_BadNumber => k_is)
    (case xv_BadNumber => kit_is)
    (case xu_BadNumber => k_is)
    (case ci_BadNumber_BadNet => kit_is)
    (case ci_BadNumber_BadDrawn => kit_is)
    (case ci_BadNumber_BadSide => kit_is)
    (case ci_BadNumber_BadPlay => kit_is)
    (case ci_BadNumber_BadNumber => kit_is)
    (case ci_BadNumber_BadFloor => kit_is)
    (case ci_BadNumber_BadEnding => kit_is)
    (case ci_BadNumber_BadOrder => kit_is)
    (case ci_BadNumber_TooMany => kit_is)
    (case xe_BadFloor => k_exc)
    (case xk_BadFloor => k_is)
    (case xs_BadFloor => k_is)
    (case xt_BadFloor => k_is)
    (case xg_BadFloor => k_is)
    (case xa_BadFloor => k_is)
    (case xd_BadFloor => k_is)
    (case xc_BadFloor => k_is)
    (case xo_BadFloor => k_is)
    (case xv_BadFloor => kit_is)
    (case xu_BadFloor => k_is)
    (case ci_BadFloor_BadNet => kit_is)
    (case ci_BadFloor_BadDrawn => kit_is)
    (case ci_BadFloor_BadSide => kit_is)
    (case ci_BadFloor_BadPlay => kit_is)
    (case ci_BadFloor_BadNumber => kit_is)
    (case ci_BadFloor_BadFloor => kit_is)
    (case ci_BadFloor_BadEnding => kit_is)
    (case ci_BadFloor_BadOrder => kit_is)
    (case ci_BadFloor_TooMany => kit_is)
    (case xe_BadEnding => k_exc)
    (case xk_BadEnding => k_is)
    (case xs_BadEnding => k_is)
    (case xt_BadEnding => k_is)
    (case xg_BadEnding => k_is)
    (case xa_BadEnding => k_is)
    (case xd_BadEnding => k_is)
    (case xc_BadEnding => k_is)
    (case xo_BadEnding => k_is)
    (case xv_BadEnding => kit_is)
    (case xu_BadEnding => k_is)
    (case ci_BadEnding_BadNet => kit_is)
    (case ci_BadEnding_BadDrawn => kit_is)
    (case ci_BadEnding_BadSide => kit_is)
    (case ci_BadEnding_BadPlay => kit_is)
    (case ci_BadEnding_BadNumber => kit_is)
    (case ci_BadEnding_BadFloor => kit_is)
    (case ci_BadEnding_BadEnding => kit_is)
    (case ci_BadEnding_BadOrder => kit_is)
    (case ci_BadEnding_TooMany => kit_is)
    (case xe_BadOrder => k_exc)
    (case xk_BadOrder => k_is)
    (case xs_BadOrder => k_is)
    (case xt_BadOrder => k_is)
    (case xg_BadOrder => k_is)
    (case xa_BadOrder => k_is)
    (case xd_BadOrder => k_is)
    (case xc_BadOrder => k_is)
    (case xo_BadOrder => k_is)
    (case xv_BadOrder => kit_is)
    (case xu_BadOrder => k_is)
    (case ci_BadOrder_BadNet => kit_is)
    (case ci_BadOrder_BadDrawn => kit_is)
    (case ci_BadOrder_BadSide => kit_is)
    (case ci_BadOrder_BadPlay => kit_is)
    (case ci_BadOrder_BadNumber => kit_is)
    (case ci_BadOrder_BadFloor => kit_is)
    (case ci_BadOrder_BadEnding => kit_is)
    (case ci_BadOrder_BadOrder => kit_is)
    (case ci_BadOrder_TooMany => kit_is)
    (case xe_TooMany => k_exc)
    (case xk_TooMany => k_is)
    (case xs_TooMany => k_is)
    (case xt_TooMany => k_is)
    (case xg_TooMany => k_is)
    (case xa_TooMany => k_is)
    (case xd_TooMany => k_is)
    (case xc_TooMany => k_is)
    (case xo_TooMany => k_is)
    (case xv_TooMany => kit_is)
    (case xu_TooMany => k_is)
    (case ci_TooMany_BadNet => kit_is)
    (case ci_TooMany_BadDrawn => kit_is)
    (case ci_TooMany_BadSide => kit_is)
    (case ci_TooMany_BadPlay => kit_is)
    (case ci_TooMany_BadNumber => kit_is)
    (case ci_TooMany_BadFloor => kit_is)
    (case ci_TooMany_BadEnding => kit_is)
    (case ci_TooMany_BadOrder => kit_is)
    (case ci_TooMany_TooMany => kit_is)
    (case xn_get => k_is)
    (case xn_tak => k_is)
    (case xs_CloseError => k_is)
    (case xd_CloseError => k_is)
    (case xt_CloseError => k_is)
    (case a_is_whole => k_is)
    (case l_is_whole => k_is)
    (case c_is_whole => k_is)
    (case k_is_whole => k_is)
    (case a_is_side => k_is)
    (case l_is_side => k_is)
    (case c_is_side => k_is)
    (case k_is_side => k_is)
    (case a_asked_net => k_is)
    (case l_asked_net => k_is)
    (case c_asked_net => k_is)
    (case k_asked_net => k_is)
    (case a_is_rising => k_is)
    (case l_is_rising => k_is)
    (case c_is_rising => k_is)
    (case k_is_rising => k_is)
    (case a_asked_drawn => k_is)
    (case l_asked_drawn => k_is)
    (case c_asked_drawn => k_is)
    (case k_asked_drawn => k_is)
    (case a_open_of => k_is)
    (case l_open_of => k_is)
    (case c_open_of => k_is)
    (case k_open_of => k_is)
    (case a_opened => k_is)
    (case l_opened => k_is)
    (case c_opened => k_is)
    (case k_opened => k_is)
    (case a_free_of => k_is)
    (case l_free_of => k_is)
    (case c_free_of => k_is)
    (case k_free_of => k_is)
    (case a_drawn_on => k_is)
    (case l_drawn_on => k_is)
    (case c_drawn_on => k_is)
    (case k_drawn_on => k_is)
    (case a_floor_net => k_is)
    (case l_floor_net => k_is)
    (case c_floor_net => k_is)
    (case k_floor_net => k_is)
    (case a_are_lengths => k_is)
    (case l_are_lengths => k_is)
    (case c_are_lengths => k_is)
    (case k_are_lengths => k_is)
    (case a_asked_ending => k_is)
    (case l_asked_ending => k_is)
    (case c_asked_ending => k_is)
    (case k_asked_ending => k_is)
    (case a_pieces_of => k_is)
    (case l_pieces_of => k_is)
    (case c_pieces_of => k_is)
    (case k_pieces_of => k_is)
    (case a_taken_of => k_is)
    (case l_taken_of => k_is)
    (case c_taken_of => k_is)
    (case k_taken_of => k_is)
    (case a_ending_of => k_is)
    (case l_ending_of => k_is)
    (case c_ending_of => k_is)
    (case k_ending_of => k_is)
    (case a_ending => k_is)
    (case l_ending => k_is)
    (case c_ending => k_is)
    (case k_ending => k_is)
    (case a_openings => k_is)
    (case l_openings => k_is)
    (case c_openings => k_is)
    (case k_openings => k_is)
    (case a_reply => k_is)
    (case l_reply => k_is)
    (case c_reply => k_is)
    (case k_reply => k_is)
    (case a_ending_net => k_is)
    (case l_ending_net => k_is)
    (case c_ending_net => k_is)
    (case k_ending_net => k_is)
    (case a_side_worth => k_is)
    (case l_side_worth => k_is)
    (case c_side_worth => k_is)
    (case k_side_worth => k_is)
    (case a_worth_of => k_is)
    (case l_worth_of => k_is)
    (case c_worth_of => k_is)
    (case k_worth_of => k_is)
    (case a_worth => k_is)
    (case l_worth => k_is)
    (case c_worth => k_is)
    (case k_worth => k_is)
    (case a_best_of => k_is)
    (case l_best_of => k_is)
    (case c_best_of => k_is)
    (case k_best_of => k_is)
    (case a_best => k_is)
    (case l_best => k_is)
    (case c_best => k_is)
    (case k_best => k_is)
    (case a_plays_of => k_is)
    (case l_plays_of => k_is)
    (case c_plays_of => k_is)
    (case k_plays_of => k_is)
    (case a_best_plays => k_is)
    (case l_best_plays => k_is)
    (case c_best_plays => k_is)
    (case k_best_plays => k_is)
    (case a_play_by => k_is)
    (case l_play_by => k_is)
    (case c_play_by => k_is)
    (case k_play_by => k_is)
    (case a__law_refused => k_is)
    (case l__law_refused => k_is)
    (case c__law_refused => k_is)
    (case k__law_refused => k_is)
    (case a__law_floors_right => k_is)
    (case l__law_floors_right => k_is)
    (case c__law_floors_right => k_is)
    (case k__law_floors_right => k_is)
    (case a__law_endings_right => k_is)
    (case l__law_endings_right => k_is)
    (case c__law_endings_right => k_is)
    (case k__law_endings_right => k_is)
    (case a__law_sides_right => k_is)
    (case l__law_sides_right => k_is)
    (case c__law_sides_right => k_is)
    (case k__law_sides_right => k_is)
    (case a_law => k_is)
    (case l_law => k_is)
    (case c_law => k_is)
    (case k_law => k_is)
    (case uc__law_floors_right => rfl)
    (case ul__law_floors_right => k_is)
    (case uv__law_floors_right => rfl)
    (case nt__law_floors_right => kernel_rfl)
    (case uc__law_sides_right => rfl)
    (case ul__law_sides_right => k_is)
    (case uv__law_sides_right => rfl)
    (case nt__law_sides_right => kernel_rfl)
    (case nd_tab => decide)
    (case hr__law_floors_right => first | rfl | decide +kernel)
    (case hr__law_sides_right => first | rfl | decide +kernel)
    (case zb_ValueError => k_is)
    (case zb_abs => k_is)
    (case zb_all => k_is)
    (case zb_any => k_is)
    (case zb_bool => k_is)
    (case zb_enumerate => k_is)
    (case zb_int => k_is)
    (case zb_isinstance => k_is)
    (case zb_len => k_is)
    (case zb_list => k_is)
    (case zb_max => k_is)
    (case zb_range => k_is)
    (case zb_sorted => k_is)
    (case zb_str => k_is)
    (case zb_sum => k_is)
    (case zb_tuple => k_is)
    (case zc_LONGEST => k_is)
    (case zc_MOST_BOXES => k_is)
    (case zc_MOST_PIECES => k_is)
    (case zc_MOST_SIDES => k_is)
    (case ta_LEAST => k_is)
    (case tl_LEAST => k_is)
    (case tq_LEAST => k_keys)
    (case ts_LEAST => decide)
    (case te_LEAST => repeat (first | exact True.intro | refine And.intro ⟨_, rfl⟩ (And.intro ⟨_, rfl⟩ ?_)))
    (case ta_LEFT => k_is)
    (case tl_LEFT => k_is)
    (case tq_LEFT => k_keys)
    (case ts_LEFT => decide)
    (case te_LEFT => repeat (first | exact True.intro | refine And.intro ⟨_, rfl⟩ (And.intro ⟨_, rfl⟩ ?_)))
