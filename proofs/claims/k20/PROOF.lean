import PyProof.Rows.All
import Wide.All
import OpenK.AllK
import Wide.FinOn
import HandS.ForMost
import HandS.IsInst
import HandS.TupAny
import HandS.Zip
import HandS.Deep
import HandS.Exc
import HandS.ExcOwn
import HandS.TryOnly
import HandS.WordsExc
import HandS.Style
import HandS.Conv
import HandS.Wide
import HandS.SortInts
import HandS.MakeKwOnly
import HandS.Star
import HandS.ExcCtx
import HandS.HotCalls
import HandS.Lambda
import KE.KNest
import HandS.EndTab
import KE.KeyNested
import KE.KDictWalk
import KE.KDictKeyed
import KE.KDictDisplayH
import KE.GoesMore
import HandS.SortRule
import HandS.More
import HandS.GenBody
import HandS.GenYield
import HandS.GenCall
import HandS.GenList
import HandS.SetFor
import HandS.Strs
import HandS.TupSets
import KE.SortData
import HandS.Iter
import KE.KDictSum
import KE.KDictList
import HandS.Property
import HandS.ExcIs
import HandS.ClsMeth
import HandS.OwnEq
import PySem.Challenge.RW_pageanchors_k20_browsers_step_by_step
set_option Elab.async false
set_option linter.all false
set_option maxRecDepth 100000
set_option maxHeartbeats 4000000
/-! Data-level layer: values as plain data, a small store of mutable lists, and what each rule of the hand layer does to them. -/
namespace DL
open PySem PySem.Spec PyProof.Rows L2

/-- gl x: the class that the main module calls x -/
inductive D where
  | non | bl (b : Bool) | int (i : Int) | str (x : Str) | tup (ds : List D) | lst (ds : List D) | fz (ds : List D) | loc (n : Nat) | gl (x : Str)
  deriving Inhabited
/-- nd: a dict whose keys are nested tuples of ints; fnd: one that is not written any more; ins: an object of the class that the main module calls x; tab: the code table of the def x of the main module, its code objects bear the name q -/
inductive Cell where
  | lst (ds : List D)
  | dic (kvs : List (Key × D))
  | nd (kvs : List (D × D))
  | fnd (kvs : List (D × D))
  | ins (x : Str) (fs : List (Str × D))
  | tab (x q : Str)
def Cell.isTab : Cell → Bool
  | .tab _ _ => true
  | _ => false
def Cell.fz : Cell → Bool
  | .fnd _ => true
  | _ => false
mutual
def nkD : D → Option NestedKey
  | .int i => some (.num i)
  | .tup ds => (nkDs ds).map .tup
  | _ => none
def nkDs : List D → Option (List NestedKey)
  | [] => some []
  | d :: ds => match nkD d, nkDs ds with | some k, some ks => some (k :: ks) | _, _ => none
end
abbrev NEnt := NestedKey × Addr × V
/-- the dict at a: its keys, where they stand, its values -/
def NDO (a : Addr) (ks : List NEnt) : HO := .ext fun h => ∃ xs : List (NestedKey × Addr × Value), Paired (fun (p : NEnt) (q : NestedKey × Addr × Value) => p.1 = q.1 ∧ p.2.1 = q.2.1 ∧ RelV p.2.2 q.2.2) ks xs ∧
  (∃ o es ep, h.get? a = some o ∧ o.ExactDict ∧ o.data = .dict es ep ∧ ∀ w : World, es.toList = xs.map fun x => ⟨x.1.hash w, .ref x.2.1, x.2.2⟩) ∧ (xs.map (·.1)).Nodup ∧ (a == sysModules) = false ∧ xs.length ≤ sizeLine
abbrev Sto := List (Option Cell)
abbrev En := List (Option D)
inductive R (α : Type) where
  | ok (a : α) (s : Sto) | er (c : Str) (s : Sto) | no
abbrev M (α : Type) := Sto → R α
def R.bind {α β : Type} : R α → (α → M β) → R β
  | .ok a s, k => k a s
  | .er c s, _ => .er c s
  | .no, _ => .no
def ret {α : Type} (a : α) : M α := fun s => .ok a s
def stuck {α : Type} : M α := fun _ => .no
def bnd {α β : Type} (m : M α) (k : α → M β) : M β := fun s => (m s).bind k
def ofO {α : Type} : Option α → M α
  | some a => ret a
  | none => stuck
/-- one of two, by a bool -/
def br {α : Type} (c : Bool) (a b : α) : α := match c with
  | true => a
  | false => b
theorem bind_ok {α β : Type} (a : α) (s : Sto) (k : α → M β) : (R.ok a s).bind k = k a s := rfl
theorem bind_no {α β : Type} (k : α → M β) : (R.no : R α).bind k = .no := rfl
theorem bind_er {α β : Type} (c : Str) (s : Sto) (k : α → M β) : (R.er c s : R α).bind k = .er c s := rfl
theorem bnd_ret {α β : Type} (a : α) (k : α → M β) : bnd (ret a) k = k a := rfl
theorem bnd_assoc {α β γ : Type} (m : M α) (k : α → M β) (l : β → M γ) : bnd (bnd m k) l = bnd m (fun a => bnd (k a) l) := by
  funext s
  show ((m s).bind k).bind l = (m s).bind fun a => bnd (k a) l
  cases m s <;> rfl
theorem ret_ap {α : Type} (a : α) (s : Sto) : ret a s = .ok a s := rfl

mutual
inductive Rep (K : PySem.W.Frag) (I : Hp) (L : List Addr) : D → V → Prop
  | non : Rep K I L .non .non
  | bl (b : Bool) : Rep K I L (.bl b) (.bl b)
  | int (i : Int) : Rep K I L (.int i) (.int i)
  | str (x : Str) : Rep K I L (.str x) (.str x)
  | tup {a : Addr} {xs : List V} {ds : List D} : I a = some (.tup xs) → RepL K I L ds xs → Rep K I L (.tup ds) (.ref a)
  | lst {a : Addr} {xs : List V} {ds : List D} : I a = some (.lst xs) → RepL K I L ds xs → Rep K I L (.lst ds) (.ref a)
  | fz {a : Addr} {xs : List V} {ds : List D} : SqL K I a xs → RepL K I L ds xs → Rep K I L (.fz ds) (.ref a)
  | loc {n : Nat} {a : Addr} : L[n]? = some a → Rep K I L (.loc n) (.ref a)
  | gl {x : Str} {a : Addr} : PySem.W.nsIn K mainGlobals x = some (some (.ref a)) → Rep K I L (.gl x) (.ref a)
inductive RepL (K : PySem.W.Frag) (I : Hp) (L : List Addr) : List D → List V → Prop
  | nil : RepL K I L [] []
  | cons {d : D} {v : V} {ds : List D} {vs : List V} : Rep K I L d v → RepL K I L ds vs → RepL K I L (d :: ds) (v :: vs)
end

theorem seqL_mono {K : PySem.W.Frag} {I I' : Hp} (h : ∀ a o, I a = some o → I' a = some o) {a : Addr} {xs : List V} (q : SqL K I a xs) : SqL K I' a xs := by
  rcases q with (q | ⟨o, q⟩) | q
  · exact .inl (.inl (h _ _ q))
  · exact .inl (.inr ⟨o, h _ _ q⟩)
  · exact .inr q
theorem pre_get {α : Type} {l m : List α} (h : l <+: m) {n : Nat} {a : α} (e : l[n]? = some a) : m[n]? = some a := by
  obtain ⟨t, rfl⟩ := h
  rw [List.getElem?_append_left (List.getElem?_eq_some_iff.mp e).1]
  exact e
section
variable {K : PySem.W.Frag} {I I' : Hp} {L L' : List Addr}
mutual
theorem Rep.mono (h : ∀ a o, I a = some o → I' a = some o) (hL : L <+: L') : ∀ {d : D} {v : V}, Rep K I L d v → Rep K I' L' d v
  | _, _, .non => .non
  | _, _, .bl b => .bl b
  | _, _, .int i => .int i
  | _, _, .str x => .str x
  | _, _, .tup e r => .tup (h _ _ e) (RepL.mono h hL r)
  | _, _, .lst e r => .lst (h _ _ e) (RepL.mono h hL r)
  | _, _, .fz e r => .fz (seqL_mono h e) (RepL.mono h hL r)
  | _, _, .loc e => .loc (pre_get hL e)
  | _, _, .gl e => .gl e
theorem RepL.mono (h : ∀ a o, I a = some o → I' a = some o) (hL : L <+: L') : ∀ {ds : List D} {vs : List V}, RepL K I L ds vs → RepL K I' L' ds vs
  | _, _, .nil => .nil
  | _, _, .cons a b => .cons (Rep.mono h hL a) (RepL.mono h hL b)
end
theorem RepL.length : ∀ {ds : List D} {vs : List V}, RepL K I L ds vs → ds.length = vs.length
  | _, _, .nil => rfl
  | _, _, .cons _ t => by rw [List.length_cons, List.length_cons, RepL.length t]
theorem RepL.get : ∀ {ds : List D} {vs : List V} {i : Nat} {d : D}, RepL K I L ds vs → ds[i]? = some d → ∃ v, vs[i]? = some v ∧ Rep K I L d v
  | _, _, _, _, .nil, e => by simp at e
  | _, _, 0, _, .cons r _, e => by simp at e; subst e; exact ⟨_, rfl, r⟩
  | _, _, i + 1, d, .cons _ t, e => by
    obtain ⟨u, h1, h2⟩ := RepL.get (i := i) (d := d) t (by simpa using e)
    exact ⟨u, by simpa using h1, h2⟩
theorem RepL.getV : ∀ {ds : List D} {vs : List V} {i : Nat} {v : V}, RepL K I L ds vs → vs[i]? = some v → ∃ d, ds[i]? = some d ∧ Rep K I L d v
  | _, _, _, _, .nil, e => by simp at e
  | _, _, 0, _, .cons r _, e => by simp at e; subst e; exact ⟨_, rfl, r⟩
  | _, _, i + 1, v, .cons _ t, e => by
    obtain ⟨u, h1, h2⟩ := RepL.getV (i := i) (v := v) t (by simpa using e)
    exact ⟨u, by simpa using h1, h2⟩
theorem RepL.append : ∀ {ds es : List D} {vs us : List V}, RepL K I L ds vs → RepL K I L es us → RepL K I L (ds ++ es) (vs ++ us)
  | _, _, _, _, .nil, s => s
  | _, _, _, _, .cons r t, s => .cons r (RepL.append t s)
theorem RepL.drop : ∀ {ds : List D} {vs : List V} (n : Nat), RepL K I L ds vs → RepL K I L (ds.drop n) (vs.drop n)
  | _, _, 0, h => h
  | _, _, n + 1, .nil => by simpa using RepL.nil
  | _, _, n + 1, .cons _ t => by simpa using RepL.drop n t
theorem RepL.take : ∀ {ds : List D} {vs : List V} (n : Nat), RepL K I L ds vs → RepL K I L (ds.take n) (vs.take n)
  | _, _, 0, h => by simpa using RepL.nil
  | _, _, n + 1, .nil => by simpa using RepL.nil
  | _, _, n + 1, .cons r t => by simpa using RepL.cons r (RepL.take n t)
theorem RepL.set : ∀ {ds : List D} {vs : List V} (n : Nat) {d : D} {v : V}, RepL K I L ds vs → Rep K I L d v → RepL K I L (ds.set n d) (vs.set n v)
  | _, _, _, _, _, .nil, _ => .nil
  | _, _, 0, _, _, .cons _ t, r => .cons r t
  | _, _, n + 1, _, _, .cons q t, r => .cons q (RepL.set n t r)
end

def NdP (K : PySem.W.Frag) (I : Hp) (L : List Addr) (p : D × D) (q : NEnt) : Prop := nkD p.1 = some q.1 ∧ q.1.depth ≤ 8 ∧ Rep K I L p.1 (.ref q.2.1) ∧ Rep K I L p.2 q.2.2
structure Wd where
  I : Hp
  L : List Addr
  Z : List Addr
  s : Sto
  H : Hp
/-- the code table of the def x, as K tells it -/
def TabOf (K : PySem.W.Frag) (x : Str) (a : Addr) : Prop := ∃ c : Addr, PySem.W.tabIn K x = some (c, a)
theorem TabOf.inj {K : PySem.W.Frag} {x : Str} {a b : Addr} (h : TabOf K x a) (k : TabOf K x b) : a = b := by
  obtain ⟨c, h⟩ := h
  obtain ⟨d, k⟩ := k
  rw [h] at k
  cases k
  rfl
def CellOk (K : PySem.W.Frag) (I : Hp) (L : List Addr) (H : Hp) (a : Addr) : Cell → Prop
  | .lst ds => ∃ xs, H a = some (.lst xs) ∧ RepL K I L ds xs
  | .dic kvs => ∃ vs : List (Key × V), H a = some (.dK vs) ∧ kvs.map (·.1) = vs.map (·.1) ∧ RepL K I L (kvs.map (·.2)) (vs.map (·.2))
  | .nd kvs => ∃ ks : List NEnt, H a = some (NDO a ks) ∧ Paired (NdP K I L) kvs ks
  | .fnd kvs => ∃ (o : Obj) (ks : List NEnt), I a = some (.frz o (NDO a ks)) ∧ H a = some (.frz o (NDO a ks)) ∧ Paired (NdP K I L) kvs ks
  | .ins x fs => ∃ (C dx : Addr) (vs : List (Str × V)), PySem.W.nsIn K mainGlobals x = some (some (.ref C)) ∧ H a = some (.ins C dx vs) ∧ fs.map (·.1) = vs.map (·.1) ∧ RepL K I L (fs.map (·.2)) (vs.map (·.2))
  | .tab x q => TabOf K x a ∧ ∃ ps : Array Value, H a = some (.tbl ps) ∧ TriplesOk ps.toList ∧ ∀ (pos : Pos) (cv : Value), codeAmong pos ps.toList = some cv → ∃ c, cv = .ref c ∧ I c = some (LamX.CodeO c q)
/-- what a cell's object looks like -/
def CellObj (a : Addr) (o : HO) : Prop := (∃ xs, o = .lst xs) ∨ (∃ vs, o = .dK vs) ∨ (∃ ks, o = NDO a ks) ∨ (∃ ob ks, o = .frz ob (NDO a ks)) ∨ (∃ C dx vs, o = .ins C dx vs) ∨ (∃ ps, o = .tbl ps)
theorem CellOk.form {K : PySem.W.Frag} {I : Hp} {L : List Addr} {H : Hp} {a : Addr} {c : Cell} (x : CellOk K I L H a c) {o : HO} (h : H a = some o) : CellObj a o := by
  cases c with
  | lst ds => obtain ⟨xs, e, _⟩ := x; rw [e] at h; cases h; exact .inl ⟨_, rfl⟩
  | dic ds => obtain ⟨xs, e, _⟩ := x; rw [e] at h; cases h; exact .inr (.inl ⟨_, rfl⟩)
  | nd ds => obtain ⟨xs, e, _⟩ := x; rw [e] at h; cases h; exact .inr (.inr (.inl ⟨_, rfl⟩))
  | fnd ds => obtain ⟨ob, xs, _, e, _⟩ := x; rw [e] at h; cases h; exact .inr (.inr (.inr (.inl ⟨_, _, rfl⟩)))
  | ins y fs => obtain ⟨C, dx, vs, _, e, _⟩ := x; rw [e] at h; cases h; exact .inr (.inr (.inr (.inr (.inl ⟨_, _, _, rfl⟩))))
  | tab y q => obtain ⟨_, ps, e, _⟩ := x; rw [e] at h; cases h; exact .inr (.inr (.inr (.inr (.inr ⟨_, rfl⟩))))
structure Wd.Ok (K : PySem.W.Frag) (w : Wd) : Prop where
  fr : ∀ a o, w.I a = some o → w.H a = some o
  len : w.L.length = w.s.length
  cell : ∀ (n : Nat) (a : Addr) (c : Cell), w.L[n]? = some a → w.s[n]? = some (some c) → (c.fz = false → w.I a = none) ∧ CellOk K w.I w.L w.H a c
  dead : ∀ (n : Nat) (a : Addr), w.L[n]? = some a → w.s[n]? = some none → w.I a ≠ none
  inj : w.L.Nodup
  zz : ∀ a ∈ w.Z, w.I a = none ∧ a ∉ w.L ∧ ∃ o, w.H a = some o
  nt : ∀ (a : Addr) (ps : Array Value), w.I a ≠ some (.tbl ps)
  zo : ∀ a ∈ w.Z, ∀ o, w.H a = some o → CellObj a o
  zt : ∀ (n : Nat) (x q : Str), w.s[n]? = some (some (.tab x q)) → ∀ a ∈ w.Z, ∀ ps : Array Value, w.H a ≠ some (.tbl ps)
structure Wd.le (w w' : Wd) : Prop where
  i : ∀ a o, w.I a = some o → w'.I a = some o
  l : w.L <+: w'.L
  z : w'.Z = w.Z
  zh : ∀ a ∈ w.Z, w'.H a = w.H a
theorem Wd.le.refl (w : Wd) : w.le w := ⟨fun _ _ h => h, List.prefix_rfl, rfl, fun _ _ => rfl⟩
theorem Wd.le.trans {a b c : Wd} (h : a.le b) (k : b.le c) : a.le c := ⟨fun x o e => k.i x o (h.i x o e), h.l.trans k.l, k.z.trans h.z, fun x hx => (k.zh x (h.z ▸ hx)).trans (h.zh x hx)⟩
/-- what is known grows (whatever is set apart) -/
structure Wd.le0 (w w' : Wd) : Prop where
  i : ∀ a o, w.I a = some o → w'.I a = some o
  l : w.L <+: w'.L
theorem Wd.le.le0 {w w' : Wd} (h : w.le w') : w.le0 w' := ⟨h.i, h.l⟩
theorem Wd.le0.refl (w : Wd) : w.le0 w := ⟨fun _ _ h => h, List.prefix_rfl⟩
theorem Wd.le0.trans {a b c : Wd} (h : a.le0 b) (k : b.le0 c) : a.le0 c := ⟨fun x o e => k.i x o (h.i x o e), h.l.trans k.l⟩
abbrev Wd.rep (K : PySem.W.Frag) (w : Wd) (d : D) (v : V) : Prop := Rep K w.I w.L d v
abbrev Wd.repL (K : PySem.W.Frag) (w : Wd) (d : List D) (v : List V) : Prop := RepL K w.I w.L d v
theorem Rep.le {K : PySem.W.Frag} {w w' : Wd} {d : D} {v : V} (r : w.rep K d v) (h : w.le w') : w'.rep K d v := Rep.mono h.i h.l r
theorem RepL.le {K : PySem.W.Frag} {w w' : Wd} {d : List D} {v : List V} (r : w.repL K d v) (h : w.le w') : w'.repL K d v := RepL.mono h.i h.l r
theorem Rep.le0 {K : PySem.W.Frag} {w w' : Wd} {d : D} {v : V} (r : w.rep K d v) (h : w.le0 w') : w'.rep K d v := Rep.mono h.i h.l r
theorem RepL.le0 {K : PySem.W.Frag} {w w' : Wd} {d : List D} {v : List V} (r : w.repL K d v) (h : w.le0 w') : w'.repL K d v := RepL.mono h.i h.l r
theorem CellOk.mono {K : PySem.W.Frag} {I I' : Hp} {L L' : List Addr} {H H' : Hp} {a : Addr} {c : Cell} (h : ∀ a o, I a = some o → I' a = some o) (hL : L <+: L') (hH : H a = H' a) (x : CellOk K I L H a c) : CellOk K I' L' H' a c := by
  cases c with
  | lst ds => obtain ⟨xs, e, r⟩ := x; exact ⟨xs, hH ▸ e, r.mono h hL⟩
  | dic kvs => obtain ⟨xs, e, r1, r⟩ := x; exact ⟨xs, hH ▸ e, r1, r.mono h hL⟩
  | nd kvs => obtain ⟨xs, e, r⟩ := x; exact ⟨xs, hH ▸ e, L2.Paired.mapP r fun p q z => ⟨z.1, z.2.1, z.2.2.1.mono h hL, z.2.2.2.mono h hL⟩⟩
  | fnd kvs => obtain ⟨o, xs, e0, e, r⟩ := x; exact ⟨o, xs, h _ _ e0, hH ▸ e, L2.Paired.mapP r fun p q z => ⟨z.1, z.2.1, z.2.2.1.mono h hL, z.2.2.2.mono h hL⟩⟩
  | ins y fs => obtain ⟨C, dx, vs, e0, e, e1, r⟩ := x; exact ⟨C, dx, vs, e0, hH ▸ e, e1, r.mono h hL⟩
  | tab y q => obtain ⟨t, ps, e, k, r⟩ := x; exact ⟨t, ps, hH ▸ e, k, fun pos cv hc => let ⟨c, e1, e2⟩ := r pos cv hc; ⟨c, e1, h _ _ e2⟩⟩
theorem CellOk.there {K : PySem.W.Frag} {I : Hp} {L : List Addr} {H : Hp} {a : Addr} {c : Cell} (x : CellOk K I L H a c) : ∃ o, H a = some o := by
  cases c with
  | lst ds => obtain ⟨xs, e, r⟩ := x; exact ⟨_, e⟩
  | dic ds => obtain ⟨xs, e, r⟩ := x; exact ⟨_, e⟩
  | nd ds => obtain ⟨xs, e, r⟩ := x; exact ⟨_, e⟩
  | fnd ds => obtain ⟨o, xs, _, e, r⟩ := x; exact ⟨_, e⟩
  | ins y fs => obtain ⟨C, dx, vs, _, e, _⟩ := x; exact ⟨_, e⟩
  | tab y q => obtain ⟨_, ps, e, _⟩ := x; exact ⟨_, e⟩
theorem Wd.Ok.there {K : PySem.W.Frag} {w : Wd} (k : w.Ok K) {n : Nat} {a : Addr} (e : w.L[n]? = some a) : ∃ o, w.H a = some o := by
  have hn : n < w.s.length := by rw [← k.len]; exact (List.getElem?_eq_some_iff.mp e).1
  have es : w.s[n]? = some w.s[n] := List.getElem?_eq_getElem hn
  cases q : w.s[n] with
  | some c => rw [q] at es; exact (k.cell n a c e es).2.there
  | none =>
    rw [q] at es
    have z := k.dead n a e es
    cases r : w.I a with
    | none => exact absurd r z
    | some o => exact ⟨o, k.fr a o r⟩
theorem Wd.Ok.freeI {K : PySem.W.Frag} {w : Wd} (k : w.Ok K) {p : Addr} (h : w.H p = none) : w.I p = none := by
  cases r : w.I p with
  | none => rfl
  | some o => rw [k.fr p o r] at h; cases h
theorem ext_upd {I : Hp} {p : Addr} {o : HO} (h : I p = none) : ∀ a u, I a = some u → upd I p o a = some u := fun a u e => by
  rw [upd_ne (ne_of_none e h)]; exact e
theorem nodup_at {l : List Addr} (h : l.Nodup) {i j : Nat} {a : Addr} (x : l[i]? = some a) (y : l[j]? = some a) : i = j := by
  obtain ⟨h1, e1⟩ := List.getElem?_eq_some_iff.mp x
  obtain ⟨h2, e2⟩ := List.getElem?_eq_some_iff.mp y
  exact (List.getElem_inj h).mp (e1.trans e2.symm)
theorem tab_set {s : Sto} {n m : Nat} {c : Cell} {x q : Str} (hct : c.isTab = false) (e : (s.set n (some c))[m]? = some (some (.tab x q))) : s[m]? = some (some (.tab x q)) := by
  by_cases hm : n = m
  · subst hm
    by_cases hl : n < s.length
    · rw [List.getElem?_set_self hl] at e
      cases e
      cases hct
    · rw [List.getElem?_eq_none (by rw [List.length_set]; omega)] at e
      cases e
  · rw [List.getElem?_set_ne hm] at e
    exact e
theorem tab_none {s : Sto} {n m : Nat} {x q : Str} (e : (s.set n none)[m]? = some (some (.tab x q))) : s[m]? = some (some (.tab x q)) := by
  by_cases hm : n = m
  · subst hm
    by_cases hl : n < s.length
    · rw [List.getElem?_set_self hl] at e
      cases e
    · rw [List.getElem?_eq_none (by rw [List.length_set]; omega)] at e
      cases e
  · rw [List.getElem?_set_ne hm] at e
    exact e
theorem tab_app {s : Sto} {m : Nat} {c : Cell} {x q : Str} (hct : c.isTab = false) (e : (s ++ [some c])[m]? = some (some (.tab x q))) : s[m]? = some (some (.tab x q)) := by
  by_cases hl : m < s.length
  · rw [List.getElem?_append_left hl] at e
    exact e
  · rw [List.getElem?_append_right (by omega)] at e
    have : m - s.length = 0 := by
      have := (List.getElem?_eq_some_iff.mp e).1
      simp at this
      omega
    rw [this] at e
    cases e
    cases hct
/-- a new frozen object -/
theorem Wd.Ok.newI {K : PySem.W.Frag} {w : Wd} (k : w.Ok K) {p : Addr} (h : w.H p = none) (o : HO) (ho : ∀ ps, o ≠ .tbl ps := by intro _ h; cases h) :
    (⟨upd w.I p o, w.L, w.Z, w.s, upd w.H p o⟩ : Wd).Ok K ∧ w.le ⟨upd w.I p o, w.L, w.Z, w.s, upd w.H p o⟩ := by
  have hI := k.freeI h
  have zne : ∀ a ∈ w.Z, a ≠ p := fun a ha => by
    obtain ⟨_, _, u, hu⟩ := k.zz a ha
    exact ne_of_none hu h
  refine ⟨⟨fun a u e => ?_, k.len, fun n a c e1 e2 => ?_, fun n a e1 e2 => ?_, k.inj, fun a ha => ?_, fun a ps e => ?_, fun a ha o' e => ?_, fun n x q e a ha ps z => k.zt n x q e a ha ps ((upd_ne (zne a ha)).symm.trans z)⟩, ⟨ext_upd hI, List.prefix_rfl, rfl, fun a ha => upd_ne (zne a ha)⟩⟩
  · by_cases ha : a = p
    · subst ha
      have e' : upd w.I a o a = some u := e
      rw [upd_same] at e'
      show upd w.H a o a = some u
      rw [upd_same]; exact e'
    · have e' : upd w.I p o a = some u := e
      rw [upd_ne ha] at e'
      show upd w.H p o a = some u
      rw [upd_ne ha]; exact k.fr a u e'
  · obtain ⟨c1, c2⟩ := k.cell n a c e1 e2
    obtain ⟨u, hu⟩ := c2.there
    have ha : a ≠ p := ne_of_none hu h
    exact ⟨fun z => (upd_ne ha).trans (c1 z), c2.mono (ext_upd hI) List.prefix_rfl (upd_ne ha).symm⟩
  · obtain ⟨u, hu⟩ := k.there e1
    have ha : a ≠ p := ne_of_none hu h
    show upd w.I p o a ≠ none
    rw [upd_ne ha]; exact k.dead n a e1 e2
  · obtain ⟨z1, z2, u, hu⟩ := k.zz a ha
    exact ⟨(upd_ne (zne a ha)).trans z1, z2, u, (upd_ne (zne a ha)).trans hu⟩
  · have e' : upd w.I p o a = some (.tbl ps) := e
    by_cases q : a = p
    · subst q
      rw [upd_same] at e'
      exact ho ps (Option.some.inj e')
    · rw [upd_ne q] at e'
      exact k.nt a ps e'
  · exact k.zo a ha o' ((upd_ne (zne a ha)).symm.trans e)
/-- the heap at an address that nothing of the world knows -/
theorem Wd.Ok.newL {K : PySem.W.Frag} {w : Wd} (k : w.Ok K) {p : Addr} (h : w.H p = none) {c : Cell} {o : HO} (hc : ∀ H', H' p = some o → CellOk K w.I (w.L ++ [p]) H' p c) (hct : c.isTab = false := by rfl) :
    (⟨w.I, w.L ++ [p], w.Z, w.s ++ [some c], upd w.H p o⟩ : Wd).Ok K ∧ w.le ⟨w.I, w.L ++ [p], w.Z, w.s ++ [some c], upd w.H p o⟩ := by
  have hI := k.freeI h
  have hp : p ∉ w.L := fun z => by
    obtain ⟨n, hn⟩ := List.getElem?_of_mem z
    obtain ⟨o', e⟩ := k.there hn
    rw [e] at h; cases h
  have hpre : w.L <+: w.L ++ [p] := List.prefix_append _ _
  have low : ∀ {n : Nat} {a : Addr}, (w.L ++ [p])[n]? = some a → (n < w.L.length ∧ w.L[n]? = some a ∧ (w.s ++ [some c])[n]? = w.s[n]? ∧ a ≠ p) ∨ (n = w.L.length ∧ a = p ∧ (w.s ++ [some c])[n]? = some (some c)) := by
    intro n a e
    have hn : n < (w.L ++ [p]).length := (List.getElem?_eq_some_iff.mp e).1
    rw [List.length_append, List.length_singleton] at hn
    by_cases hl : n < w.L.length
    · rw [List.getElem?_append_left hl] at e
      refine .inl ⟨hl, e, List.getElem?_append_left (by rw [← k.len]; exact hl), ?_⟩
      rintro rfl
      exact hp (List.mem_of_getElem? e)
    · have hn' : n = w.L.length := by omega
      subst hn'
      rw [List.getElem?_append_right (Nat.le_refl _), Nat.sub_self] at e
      refine .inr ⟨rfl, (Option.some.inj e).symm, ?_⟩
      rw [k.len, List.getElem?_append_right (Nat.le_refl _), Nat.sub_self]; rfl
  have zne : ∀ a ∈ w.Z, a ≠ p := fun a ha => by
    obtain ⟨_, _, u, hu⟩ := k.zz a ha
    exact ne_of_none hu h
  refine ⟨⟨fun a u e => ?_, ?_, fun n a c' e1 e2 => ?_, fun n a e1 e2 => ?_, ?_, fun a ha => ?_, k.nt, fun a ha o' e => k.zo a ha o' ((upd_ne (zne a ha)).symm.trans e), fun n x q e a ha ps z => k.zt n x q (tab_app hct e) a ha ps ((upd_ne (zne a ha)).symm.trans z)⟩, ⟨fun _ _ e => e, hpre, rfl, fun a ha => upd_ne (zne a ha)⟩⟩
  · show upd w.H p o a = some u
    rw [upd_ne (ne_of_none e hI)]; exact k.fr a u e
  · show (w.L ++ [p]).length = (w.s ++ [some c]).length
    rw [List.length_append, List.length_append, k.len]; rfl
  · rcases low e1 with ⟨_, h1, h2, h3⟩ | ⟨_, h1, h2⟩
    · obtain ⟨c1, c2⟩ := k.cell n a c' h1 (h2.symm.trans e2)
      exact ⟨c1, c2.mono (fun _ _ e => e) hpre (upd_ne h3).symm⟩
    · subst h1
      have z : some (some c) = some (some c') := h2.symm.trans e2
      cases z
      exact ⟨fun _ => hI, hc _ upd_same⟩
  · rcases low e1 with ⟨_, h1, h2, h3⟩ | ⟨_, h1, h2⟩
    · exact k.dead n a h1 (h2.symm.trans e2)
    · have z : some (some c) = some none := h2.symm.trans e2
      cases z
  · show (w.L ++ [p]).Nodup
    rw [List.nodup_append]
    refine ⟨k.inj, by simp, ?_⟩
    intro a ha b hb
    have : b = p := by simpa using hb
    subst this
    rintro rfl
    exact hp ha
  · obtain ⟨z1, z2, u, hu⟩ := k.zz a ha
    refine ⟨z1, fun q => ?_, u, (upd_ne (zne a ha)).trans hu⟩
    rcases List.mem_append.mp q with q | q
    · exact z2 q
    · exact zne a ha (by simpa using q)
/-- a cell is written -/
theorem Wd.Ok.put {K : PySem.W.Frag} {w : Wd} (k : w.Ok K) {n : Nat} {a : Addr} {c0 c : Cell} {o : HO} (e : w.L[n]? = some a) (es : w.s[n]? = some (some c0)) (hc : ∀ H', H' a = some o → CellOk K w.I w.L H' a c) (h0 : c0.fz = false := by rfl) (hct : c.isTab = false := by rfl) :
    (⟨w.I, w.L, w.Z, w.s.set n (some c), upd w.H a o⟩ : Wd).Ok K ∧ w.le ⟨w.I, w.L, w.Z, w.s.set n (some c), upd w.H a o⟩ := by
  have hI := (k.cell n a c0 e es).1 h0
  have hn : n < w.s.length := (List.getElem?_eq_some_iff.mp es).1
  have far : ∀ {m : Nat} {b : Addr}, w.L[m]? = some b → m ≠ n → b ≠ a := fun {m b} em hm hb => by
    subst hb
    exact hm (nodup_at k.inj em e)
  have zne : ∀ b ∈ w.Z, b ≠ a := fun b hb z => by
    subst z
    exact (k.zz b hb).2.1 (List.mem_of_getElem? e)
  refine ⟨⟨fun b u q => ?_, ?_, fun m b c' e1 e2 => ?_, fun m b e1 e2 => ?_, k.inj, fun b hb => ?_, k.nt, fun b hb o' q => k.zo b hb o' ((upd_ne (zne b hb)).symm.trans q), fun m x q e b hb ps z => k.zt m x q (tab_set hct e) b hb ps ((upd_ne (zne b hb)).symm.trans z)⟩, ⟨fun _ _ e => e, List.prefix_rfl, rfl, fun b hb => upd_ne (zne b hb)⟩⟩
  · show upd w.H a o b = some u
    rw [upd_ne (ne_of_none q hI)]; exact k.fr b u q
  · show w.L.length = (w.s.set n (some c)).length
    rw [List.length_set]; exact k.len
  · by_cases hm : m = n
    · subst hm
      have e2' : (w.s.set m (some c))[m]? = some (some c') := e2
      rw [List.getElem?_set_self hn] at e2'
      cases e2'
      have : b = a := Option.some.inj (e1.symm.trans e)
      subst this
      exact ⟨fun _ => hI, hc _ upd_same⟩
    · have e2' : (w.s.set n (some c))[m]? = some (some c') := e2
      rw [List.getElem?_set_ne (Ne.symm hm)] at e2'
      obtain ⟨c1, c2⟩ := k.cell m b c' e1 e2'
      exact ⟨c1, c2.mono (fun _ _ e => e) List.prefix_rfl (upd_ne (far e1 hm)).symm⟩
  · by_cases hm : m = n
    · subst hm
      have e2' : (w.s.set m (some c))[m]? = some none := e2
      rw [List.getElem?_set_self hn] at e2'
      cases e2'
    · have e2' : (w.s.set n (some c))[m]? = some none := e2
      rw [List.getElem?_set_ne (Ne.symm hm)] at e2'
      exact k.dead m b e1 e2'
  · obtain ⟨z1, z2, u, hu⟩ := k.zz b hb
    exact ⟨z1, z2, u, (upd_ne (zne b hb)).trans hu⟩
/-- a list is given up: from now on it is data -/
theorem Wd.Ok.freeze {K : PySem.W.Frag} {w : Wd} (k : w.Ok K) {n : Nat} {a : Addr} {ds : List D} (e : w.L[n]? = some a) (es : w.s[n]? = some (some (.lst ds))) :
    ∃ w' : Wd, w'.Ok K ∧ w.le w' ∧ w'.s = w.s.set n none ∧ w'.H = w.H ∧ w'.rep K (.lst ds) (.ref a) := by
  obtain ⟨hI0, xs, hx, r⟩ := k.cell n a _ e es
  have hI := hI0 rfl
  have hn : n < w.s.length := (List.getElem?_eq_some_iff.mp es).1
  have hle : w.le ⟨upd w.I a (.lst xs), w.L, w.Z, w.s.set n none, w.H⟩ := ⟨ext_upd hI, List.prefix_rfl, rfl, fun _ _ => rfl⟩
  have zne : ∀ b ∈ w.Z, b ≠ a := fun b hb z => by
    subst z
    exact (k.zz b hb).2.1 (List.mem_of_getElem? e)
  refine ⟨⟨upd w.I a (.lst xs), w.L, w.Z, w.s.set n none, w.H⟩, ⟨fun b u q => ?_, ?_, fun m b c' e1 e2 => ?_, fun m b e1 e2 => ?_, k.inj, fun b hb => ?_, fun b ps e => ?_, k.zo, fun m x q e => k.zt m x q (tab_none e)⟩, hle, rfl, rfl, .lst upd_same (r.le hle)⟩
  · have q' : upd w.I a (.lst xs) b = some u := q
    by_cases hb : b = a
    · subst hb
      rw [upd_same] at q'
      exact hx.trans q'
    · rw [upd_ne hb] at q'
      exact k.fr b u q'
  · show w.L.length = (w.s.set n none).length
    rw [List.length_set]; exact k.len
  · by_cases hm : m = n
    · subst hm
      have e2' : (w.s.set m none)[m]? = some (some c') := e2
      rw [List.getElem?_set_self hn] at e2'
      cases e2'
    · have e2' : (w.s.set n none)[m]? = some (some c') := e2
      rw [List.getElem?_set_ne (Ne.symm hm)] at e2'
      obtain ⟨c1, c2⟩ := k.cell m b c' e1 e2'
      have hb : b ≠ a := fun z => by subst z; exact hm (nodup_at k.inj e1 e)
      exact ⟨fun z => (upd_ne hb).trans (c1 z), c2.mono (ext_upd hI) List.prefix_rfl rfl⟩
  · show upd w.I a (.lst xs) b ≠ none
    by_cases hb : b = a
    · subst hb; rw [upd_same]; intro z; cases z
    · rw [upd_ne hb]
      refine k.dead m b e1 ?_
      have hm : m ≠ n := fun z => by subst z; exact hb (Option.some.inj (e1.symm.trans e))
      have e2' : (w.s.set n none)[m]? = some none := e2
      rw [List.getElem?_set_ne (Ne.symm hm)] at e2'
      exact e2'
  · obtain ⟨z1, z2, u, hu⟩ := k.zz b hb
    exact ⟨(upd_ne (zne b hb)).trans z1, z2, u, hu⟩
  · have e' : upd w.I a (.lst xs) b = some (.tbl ps) := e
    by_cases q : b = a
    · subst q
      rw [upd_same] at e'
      cases e'
    · rw [upd_ne q] at e'
      exact k.nt b ps e'

/-! ### what follows a run -/
def Fin {α : Type} (K : PySem.W.Frag) (mg : Str → Option Value) (E : XK) (w : Wd) (r : R α) (Q : α → Wd → Prop) : Prop :=
  match r with
  | .ok a s' => ∀ w' : Wd, w.le w' → w'.Ok K → w'.s = s' → Q a w'
  | .er c s' => ∀ (C : Addr) (w' : Wd), mg c = some (.ref C) → w.le w' → w'.Ok K → w'.s = s' → E (.ref C) none w'.H
  | .no => False
section
variable {K : PySem.W.Frag} {mg : Str → Option Value} {E : XK} {w w' : Wd} {α β : Type}
theorem Fin.up {r : R α} {Q : α → Wd → Prop} (h : Fin K mg E w r Q) (l : w.le w') : Fin K mg E w' r Q := by
  cases r with
  | ok a s => exact fun w2 h1 h2 h3 => h w2 (l.trans h1) h2 h3
  | er c s => exact fun C w2 h0 h1 h2 h3 => h C w2 h0 (l.trans h1) h2 h3
  | no => exact h
theorem Fin.imp {r : R α} {Q Q' : α → Wd → Prop} (h : Fin K mg E w r Q) (k : ∀ a w', w.le w' → w'.Ok K → Q a w' → Q' a w') : Fin K mg E w r Q' := by
  cases r with
  | ok a s => exact fun w2 h1 h2 h3 => k a w2 h1 h2 (h w2 h1 h2 h3)
  | er c s => exact h
  | no => exact h
theorem Fin.bind {r : R α} {f : α → M β} {Q : β → Wd → Prop} (h : Fin K mg E w (r.bind f) Q) : Fin K mg E w r (fun a w1 => Fin K mg E w1 (f a w1.s) Q) := by
  cases r with
  | ok a s =>
    intro w2 h1 h2 h3
    subst h3
    exact Fin.up h h1
  | er c s => exact h
  | no => exact h
theorem Fin.ret {a : α} {Q : α → Wd → Prop} (k : w.Ok K) (h : Fin K mg E w (.ok a w.s) Q) : Q a w := h w (Wd.le.refl w) k rfl
end
end DL

namespace DL
open PySem PySem.Spec PyProof.Rows L2

/-! ### slots -/
def RepE (K : PySem.W.Frag) (w : Wd) (ρ : En) (σ : L2.St) : Prop := ρ.length = σ.length ∧ ∀ (i : Nat) (d : D), ρ[i]? = some (some d) → ∃ v, σ[i]? = some (some v) ∧ w.rep K d v
section
variable {K : PySem.W.Frag} {w w' : Wd} {ρ : En} {σ : L2.St}
theorem RepE.le (h : RepE K w ρ σ) (l : w.le w') : RepE K w' ρ σ := ⟨h.1, fun i d e => let ⟨v, a, b⟩ := h.2 i d e; ⟨v, a, b.le l⟩⟩
theorem RepE.le0 (h : RepE K w ρ σ) (l : w.le0 w') : RepE K w' ρ σ := ⟨h.1, fun i d e => let ⟨v, a, b⟩ := h.2 i d e; ⟨v, a, b.le0 l⟩⟩
theorem RepE.set (h : RepE K w ρ σ) (i : Nat) {d : D} {v : V} (r : w.rep K d v) : RepE K w (ρ.set i (some d)) (σ.set i (some v)) := by
  refine ⟨by rw [List.length_set, List.length_set]; exact h.1, fun j e q => ?_⟩
  by_cases hj : i = j
  · subst hj
    by_cases hl : i < ρ.length
    · rw [List.getElem?_set_self hl] at q
      cases q
      exact ⟨v, List.getElem?_set_self (by rw [← h.1]; exact hl), r⟩
    · rw [List.getElem?_eq_none (by rw [List.length_set]; omega)] at q; cases q
  · rw [List.getElem?_set_ne hj] at q
    obtain ⟨u, a, b⟩ := h.2 j e q
    exact ⟨u, by rw [List.getElem?_set_ne hj]; exact a, b⟩
theorem RepE.unset (h : RepE K w ρ σ) (i : Nat) : RepE K w (ρ.set i none) (σ.set i none) := by
  refine ⟨by rw [List.length_set, List.length_set]; exact h.1, fun j e q => ?_⟩
  by_cases hj : i = j
  · subst hj
    by_cases hl : i < ρ.length
    · rw [List.getElem?_set_self hl] at q; cases q
    · rw [List.getElem?_eq_none (by rw [List.length_set]; omega)] at q; cases q
  · rw [List.getElem?_set_ne hj] at q
    obtain ⟨u, a, b⟩ := h.2 j e q
    exact ⟨u, by rw [List.getElem?_set_ne hj]; exact a, b⟩
end
def wipeD (ρ : En) : List Nat → En
  | [] => ρ
  | v :: vs => (wipeD ρ vs).set v none
theorem RepE.wipe {K : PySem.W.Frag} {w : Wd} {ρ : En} {σ : L2.St} (h : RepE K w ρ σ) : ∀ vs : List Nat, RepE K w (wipeD ρ vs) (wipe σ vs)
  | [] => h
  | v :: vs => (RepE.wipe h vs).unset v

/-! ### what an iterator gives -/
structure ItD (K : PySem.W.Frag) (J : It) (w0 : Wd) (items : List D) : Prop where
  go : ∀ (w : Wd) (i : Nat), w0.le0 w → w.Ok K → i < items.length → J.go i w.H
  stop : ∀ (w : Wd) (i : Nat), w0.le0 w → w.Ok K → items.length ≤ i → J.stop i w.H
  yld : ∀ (w : Wd) (i : Nat) (d : D) (x : V) (H' : Hp), w0.le0 w → w.Ok K → items[i]? = some d → J.yld i w.H x H' → ∃ w' : Wd, w.le w' ∧ w'.Ok K ∧ w'.s = w.s ∧ w'.H = H' ∧ w'.rep K d x
theorem ItD.le {K : PySem.W.Frag} {J : It} {w0 w1 : Wd} {items : List D} (h : ItD K J w0 items) (l : w0.le w1) : ItD K J w1 items :=
  ⟨fun w i a => h.go w i (l.le0.trans a), fun w i a => h.stop w i (l.le0.trans a), fun w i d x H' a => h.yld w i d x H' (l.le0.trans a)⟩

/-! ### the ends of a statement -/
inductive Fl where
  | nx (ρ : En) | rt (d : D) | bk (ρ : En) | ct (ρ : En)
def EndsQ (K : PySem.W.Frag) (Z : Ends) : Fl → Wd → Prop
  | .nx ρ, w => ∀ σ, RepE K w ρ σ → Z.nx σ w.H
  | .rt d, w => ∀ v, w.rep K d v → Z.rt v w.H
  | .bk ρ, w => ∀ σ, RepE K w ρ σ → Z.bk σ w.H
  | .ct ρ, w => ∀ σ, RepE K w ρ σ → Z.ct σ w.H

/-! ### the canonical readings -/
section
variable (K : PySem.W.Frag) (mg : Str → Option Value) (E : XK)
def tD (f : En → M D) : TE := fun σ H Q => ∃ (ρ : En) (w : Wd), w.H = H ∧ w.Ok K ∧ RepE K w ρ σ ∧ Fin K mg E w (f ρ w.s) fun d w' => ∀ v, w'.rep K d v → Q v w'.H
def tDT (f : En → M Bool) : TT := fun σ H Q => ∃ (ρ : En) (w : Wd), w.H = H ∧ w.Ok K ∧ RepE K w ρ σ ∧ Fin K mg E w (f ρ w.s) fun b w' => Q b w'.H
def tDA (f : En → M (List D)) : TA := fun σ H Q => ∃ (ρ : En) (w : Wd), w.H = H ∧ w.Ok K ∧ RepE K w ρ σ ∧ Fin K mg E w (f ρ w.s) fun ds w' => ∀ vs, w'.repL K ds vs → Q vs w'.H
def tDI (f : En → M (List D)) : TI := fun σ H Q => ∃ (ρ : En) (w : Wd), w.H = H ∧ w.Ok K ∧ RepE K w ρ σ ∧ Fin K mg E w (f ρ w.s) fun ds w' => ∀ J, ItD K J w' ds → Q J w'.H
def tDG (g : D → En → M En) : TG := fun v σ H Q => ∃ (d : D) (ρ : En) (w : Wd), w.H = H ∧ w.Ok K ∧ w.rep K d v ∧ RepE K w ρ σ ∧ Fin K mg E w (g d ρ w.s) fun ρ' w' => ∀ σ', RepE K w' ρ' σ' → Q σ' w'.H
def tDGs (g : List D → En → M En) : TGs := fun vs σ H Q => ∃ (ds : List D) (ρ : En) (w : Wd), w.H = H ∧ w.Ok K ∧ w.repL K ds vs ∧ RepE K w ρ σ ∧ Fin K mg E w (g ds ρ w.s) fun ρ' w' => ∀ σ', RepE K w' ρ' σ' → Q σ' w'.H
def tDS (f : En → M Fl) : TS := fun Z σ H => ∃ (ρ : En) (w : Wd), w.H = H ∧ w.Ok K ∧ RepE K w ρ σ ∧ Fin K mg E w (f ρ w.s) (EndsQ K Z)
end
abbrev DE (X : Cx) (E : XK) (e : Expr) (f : En → M D) : Prop := PE X e (tD X.K X.mg E f)
abbrev DT (X : Cx) (E : XK) (e : Expr) (f : En → M Bool) : Prop := PT X e (tDT X.K X.mg E f)
abbrev DW (X : Cx) (E : XK) (e : Expr) (f : En → M Bool) : Prop := PW X e (tDT X.K X.mg E f)
abbrev DTs (X : Cx) (E : XK) (e : List Expr) (f : En → M Bool) : Prop := PTs X e (tDT X.K X.mg E f)
abbrev DA (X : Cx) (E : XK) (e : List Expr) (f : En → M (List D)) : Prop := PA X e (tDA X.K X.mg E f)
abbrev DI (X : Cx) (E : XK) (tg e : Expr) (f : En → M (List D)) : Prop := PI X tg e (tDI X.K X.mg E f)
abbrev DG (X : Cx) (E : XK) (tg : Expr) (g : D → En → M En) : Prop := PG X tg (tDG X.K X.mg E g)
abbrev DGs (X : Cx) (E : XK) (tg : List Expr) (g : List D → En → M En) : Prop := PGs X tg (tDGs X.K X.mg E g)
abbrev DS (X : Cx) (E : XK) (e : Stmt) (f : En → M Fl) : Prop := PS X e (tDS X.K X.mg E f)
abbrev DSs (X : Cx) (E : XK) (e : List Stmt) (f : En → M Fl) : Prop := PSs X e (tDS X.K X.mg E f)

section
variable {X : Cx}
theorem _root_.L2.PE.imp {e : Expr} {t t' : TE} (h : PE X e t) (k : ∀ σ H Q, t' σ H Q → t σ H Q) : PE X e t' := ⟨fun pins s σ H Q I hq => h.run pins s σ H Q I (k σ H Q hq)⟩
theorem _root_.L2.PT.imp {e : Expr} {t t' : TT} (h : PT X e t) (k : ∀ σ H Q, t' σ H Q → t σ H Q) : PT X e t' := ⟨fun pins s σ H Q I hq => h.run pins s σ H Q I (k σ H Q hq)⟩
theorem _root_.L2.PW.imp {e : Expr} {t t' : TT} (h : PW X e t) (k : ∀ σ H Q, t' σ H Q → t σ H Q) : PW X e t' := ⟨fun wh pins s σ H Q I hq => h.run wh pins s σ H Q I (k σ H Q hq)⟩
theorem _root_.L2.PTs.imp {e : List Expr} {t t' : TT} (h : PTs X e t) (k : ∀ σ H Q, t' σ H Q → t σ H Q) : PTs X e t' := ⟨fun pins s σ H Q I hq => h.run pins s σ H Q I (k σ H Q hq)⟩
theorem _root_.L2.PA.imp {e : List Expr} {t t' : TA} (h : PA X e t) (k : ∀ σ H Q, t' σ H Q → t σ H Q) : PA X e t' := ⟨fun pos pins s σ H Q I hq => h.run pos pins s σ H Q I (k σ H Q hq)⟩
theorem _root_.L2.PI.imp {tg e : Expr} {t t' : TI} (h : PI X tg e t) (k : ∀ σ H Q, t' σ H Q → t σ H Q) : PI X tg e t' := ⟨fun pins s σ H Q I hq => h.run pins s σ H Q I (k σ H Q hq)⟩
theorem _root_.L2.PG.imp {e : Expr} {t t' : TG} (h : PG X e t) (k : ∀ v σ H Q, t' v σ H Q → t v σ H Q) : PG X e t' := ⟨fun pins s σ H v u Q I r hq => h.run pins s σ H v u Q I r (k v σ H Q hq)⟩
theorem _root_.L2.PGs.imp {e : List Expr} {t t' : TGs} (h : PGs X e t) (k : ∀ v σ H Q, t' v σ H Q → t v σ H Q) : PGs X e t' := ⟨fun pins s σ H v u Q I r hq => h.run pins s σ H v u Q I r (k v σ H Q hq)⟩
theorem _root_.L2.PS.imp {e : Stmt} {t t' : TS} (h : PS X e t) (k : ∀ Z σ H, t' Z σ H → t Z σ H) : PS X e t' := ⟨fun pins s σ H Z I hq => h.run pins s σ H Z I (k Z σ H hq)⟩
theorem _root_.L2.PSs.imp {e : List Stmt} {t t' : TS} (h : PSs X e t) (k : ∀ Z σ H, t' Z σ H → t Z σ H) : PSs X e t' := ⟨fun pins s σ H Z I hq => h.run pins s σ H Z I (k Z σ H hq)⟩
end

/-! ### the context's facts -/
theorem takesN {X : Cx} : L2N.Takes X (fun _ _ _ _ => False) := fun _ _ x => by
  obtain ⟨_, _, _, _, _, _, _, _, _, _, _, _, _, _, _, _, z⟩ := x
  exact z.elim
theorem passN {X : Cx} : Passes (L2N.CX X.prog X.w) X E0 := L2N.passes_call takesN fun _ _ _ _ z => z
theorem cxUpN {P : Program} {w : World} : StX.CXUp (L2N.CX P w) := by
  rintro outer s H s2 H2 E e s' un kp ho ⟨a, B, H', cls, d, ea, fl, hok, ub, na, os, ag, he⟩
  refine ⟨a, B, H', cls, d, ea, fl, hok, ⟨fun b o q n hb => ub.keep b o (kp b o q) (un.free b o q n (by simp)) hb, fun b o q hb => ub.slot b o (kp b o q) hb, fun b o q n => ub.free b o (kp b o q) (un.free b o q n (by simp)),
    fun b o q hb => ub.there b o (kp b o q) hb, fun b xs q => ub.tups b xs (un.tups b xs q), fun b o xs q => ub.frzs b o xs (un.frzs b o xs q), fun b ps q => ?_⟩, na, os.trans ho, ag, he⟩
  obtain ⟨m1, e1⟩ := un.tbls b ps q
  obtain ⟨m2, e2⟩ := ub.tbls b _ e1
  exact ⟨m1 ++ m2, by rw [e2, Array.append_assoc]⟩
/-- tk: what is wished of an exception is taken -/
structure Ctl (X : Cx) (E : XK) (k : Nat) : Prop where
  calm : X.calm = true
  nd : X.N.Nodup
  own : PassesOwn (model X.prog X.w) X.A X.env X.xe
  tk : L2N.Takes X fun cls d _ H => E cls d H
  room : Room k X.A
theorem Ctl.pass {X : Cx} {E : XK} {k : Nat} (C : Ctl X E k) : Passes (L2N.CX X.prog X.w) X E := L2N.passes_call C.tk fun _ _ _ _ h => h
/-- a def's promise by its mirror -/
def spM (K : PySem.W.Frag) (mg : Str → Option Value) (m : List D → M D) : Sp := fun vs H Q E => ∃ (ds : List D) (w : Wd), w.H = H ∧ w.Ok K ∧ w.repL K ds vs ∧ Fin K mg E w (m ds w.s) fun d w' => ∀ v, w'.rep K d v → Q v w'.H

section
variable {X : Cx} {E : XK} {K : PySem.W.Frag} {mg : Str → Option Value} {pos : Pos}
/-! ### expressions -/
def ofSlot : Option (Option D) → M D
  | some (some d) => ret d
  | _ => stuck
def eVar (i : Nat) : En → M D := fun ρ => ofSlot ρ[i]?
theorem de_var (i : Nat) {x : Str} (hN : X.N[i]? = some x := by rfl) (hv : Vis X.env.scope x := by first | exact Or.inl rfl | exact Or.inr (Or.inl rfl) | exact Or.inr (Or.inr rfl)) (hd : (x == ("__debug__" : Str)) = false := by decide)
    (hcd : (x == ("__classdict__" : Str)) = false := by decide) : DE X E (.Name x pos) (eVar i) := by
  refine (pe_var hN hv hd hcd).imp fun σ H Q ⟨ρ, w, e, ok, re, h⟩ => ?_
  subst e
  unfold eVar at h
  cases hq : ρ[i]? with
  | none => rw [hq] at h; exact h.elim
  | some o =>
    cases o with
    | none => rw [hq] at h; exact h.elim
    | some d =>
      rw [hq] at h
      obtain ⟨v, hv, rv⟩ := re.2 i d hq
      exact ⟨v, hv, h w (Wd.le.refl w) ok rfl v rv⟩
def eK (d : D) : En → M D := fun _ => ret d
theorem de_c {e : Expr} {v : V} {d : D} (h : PE X e (tC v)) (r : ∀ (w : Wd), w.rep X.K d v) : DE X E e (eK d) := h.imp fun σ H Q ⟨ρ, w, e, ok, re, h⟩ => by
  subst e
  exact h w (Wd.le.refl w) ok rfl v (r w)
theorem de_int {i j} : DE X E (.Constant (.int i) j pos) (eK (.int i)) := de_c pe_int fun _ => .int i
theorem de_bl {b j} : DE X E (.Constant (.bool b) j pos) (eK (.bl b)) := de_c pe_bl fun _ => .bl b
theorem de_non {j} : DE X E (.Constant .none j pos) (eK .non) := de_c pe_non fun _ => .non
theorem de_str {x j} : DE X E (.Constant (.str x) j pos) (eK (.str x)) := de_c pe_str fun _ => .str x
/-- a module's int -/
theorem de_glob {x : Str} {i : Int} {t : Tok} (hm : X.mg x = some (.int i t)) (hg : Gl X x := by rfl) (hd : (x == ("__debug__" : Str)) = false := by decide) : DE X E (.Name x pos) (eK (.int i)) := de_c (v := .int i) (pe_glob hg hm (show RelV (.int i) (.int i t) from ⟨t, rfl⟩) hd) fun _ => .int i

/-- a two-place operation by values, in data -/
def OpD (K : PySem.W.Frag) (mg : Str → Option Value) (E : XK) (r : R2) (g : D → D → M D) : Prop := ∀ (x y : D) (v u : V) (w : Wd) (Q : VK), w.Ok K → w.rep K x v → w.rep K y u →
  Fin K mg E w (g x y w.s) (fun d w' => ∀ v', w'.rep K d v' → Q v' w'.H) → r v u w.H Q
theorem OpD.orL {r r' : R2} {g : D → D → M D} (h : OpD K mg E r g) : OpD K mg E (fun x y H Q => r x y H Q ∨ r' x y H Q) g := fun x y v u w Q ok a b q => .inl (h x y v u w Q ok a b q)
theorem OpD.orR {r r' : R2} {g : D → D → M D} (h : OpD K mg E r' g) : OpD K mg E (fun x y H Q => r x y H Q ∨ r' x y H Q) g := fun x y v u w Q ok a b q => .inr (h x y v u w Q ok a b q)
def e2 (g : D → D → M D) (f1 f2 : En → M D) : En → M D := fun ρ => bnd (f1 ρ) fun x => bnd (f2 ρ) fun y => g x y
theorem run2 {r : R2} {g : D → D → M D} {f1 f2 : En → M D} (hr : OpD X.K X.mg E r g) {σ : L2.St} {H : Hp} {Q : VK} (h : tD X.K X.mg E (e2 g f1 f2) σ H Q) : tOp r (tD X.K X.mg E f1) (tD X.K X.mg E f2) σ H Q := by
  obtain ⟨ρ, w, e, ok, re, h⟩ := h
  subst e
  refine ⟨ρ, w, rfl, ok, re, (Fin.bind h).imp fun x w1 l1 ok1 h1 v rv => ?_⟩
  refine ⟨ρ, w1, rfl, ok1, re.le l1, (Fin.bind h1).imp fun y w2 l2 ok2 h2 u ru => ?_⟩
  exact hr x y v u w2 Q ok2 (rv.le l2) ru h2
variable {a b c e : Expr} {f1 f2 f3 f : En → M D}
theorem de_op {op : Operator} {r : R2} {g : D → D → M D} (ho : OpR X (binaryOp op) r) (hr : OpD X.K X.mg E r g) (ha : DE X E a f1) (hb : DE X E b f2) : DE X E (.BinOp a op b pos) (e2 g f1 f2) :=
  (pe_op ho ha hb).imp fun _ _ _ h => run2 hr h
theorem de_cmp {op : CmpOp} {r : R2} {g : D → D → M D} (ho : OpR X (compareOp op) r) (hr : OpD X.K X.mg E r g) (ha : DE X E a f1) (hb : DE X E b f2) (hm : behindInMarks op b = false) : DE X E (.Compare a [op] [b] pos) (e2 g f1 f2) :=
  (pe_cmpR ho ha hb hm).imp fun _ _ _ h => run2 hr h
theorem de_ix0 {r : R2} {g : D → D → M D} (ho : IxR X r) (hr : OpD X.K X.mg E r g) (ha : DE X E a f1) (hb : DE X E b f2) (hs : PlainIx b) : DE X E (.Subscript a b pos) (e2 g f1 f2) :=
  (pe_ix ho ha hb hs).imp fun _ _ _ h => run2 hr h
def asB : D → M Bool
  | .bl b => ret b
  | _ => stuck
def toT (f : En → M D) : En → M Bool := fun ρ => bnd (f ρ) asB
theorem asB_fin {x : D} {v : V} {w : Wd} {Q : Bool → Wd → Prop} (ok : w.Ok K) (r : w.rep K x v) (h : Fin K mg E w (asB x w.s) Q) : ∃ c, v = .bl c ∧ Q c w := by
  cases r with
  | bl b => exact ⟨b, rfl, h w (Wd.le.refl w) ok rfl⟩
  | non => exact h.elim
  | int => exact h.elim
  | str => exact h.elim
  | tup => exact h.elim
  | lst => exact h.elim
  | fz => exact h.elim
  | gl => exact h.elim
  | loc => exact h.elim
theorem runT {σ : L2.St} {H : Hp} {Q : Bool → Hp → Prop} (h : tDT X.K X.mg E (toT f) σ H Q) : tTest (tD X.K X.mg E f) σ H Q := by
  obtain ⟨ρ, w, e, ok, re, h⟩ := h
  subst e
  refine ⟨ρ, w, rfl, ok, re, (Fin.bind h).imp fun x w1 l1 ok1 h1 v rv => ?_⟩
  exact asB_fin ok1 rv h1
/-- an expression with a bool as a test -/
theorem dt_val (h : DE X E e f) (he : ∀ whole, isTrue e X.env whole = (do let v ← whole; standAt e.pos; holding [v] (truthy v)) := by intro _; rfl) : DT X E e (toT f) :=
  (pt_val h he).imp fun _ _ _ h => runT h
theorem dt_cmp {op : CmpOp} {r : R2} {g : D → D → M D} (ho : OpR X (compareOp op) r) (hr : OpD X.K X.mg E r g) (ha : DE X E a f1) (hb : DE X E b f2) (hm : behindInMarks op b = false) : DT X E (.Compare a [op] [b] pos) (toT (e2 g f1 f2)) :=
  (pt_cmpR ho ha hb hm).imp fun σ H Q h => by
    obtain ⟨ρ, w, e, ok, re, h'⟩ := runT h
    subst e
    exact run2 hr ⟨ρ, w, rfl, ok, re, h'⟩
/-- a chain of two comparisons -/
def eChain (g g' : D → D → M D) (f1 f2 f3 : En → M D) : En → M D := fun ρ => bnd (f1 ρ) fun x => bnd (f2 ρ) fun y => bnd (g x y) fun z => bnd (asB z) fun k => br k (bnd (f3 ρ) fun u => g' y u) (ret (.bl false))
theorem runC {r r' : R2} {g g' : D → D → M D} (hr : OpD X.K X.mg E r g) (hr' : OpD X.K X.mg E r' g') {σ : L2.St} {H : Hp} {Q : VK} (h : tD X.K X.mg E (eChain g g' f1 f2 f3) σ H Q) :
    tChain r r' (tD X.K X.mg E f1) (tD X.K X.mg E f2) (tD X.K X.mg E f3) σ H Q := by
  obtain ⟨ρ, w, e, ok, re, h⟩ := h
  subst e
  refine ⟨ρ, w, rfl, ok, re, (Fin.bind h).imp fun x w1 l1 ok1 h1 v rv => ?_⟩
  refine ⟨ρ, w1, rfl, ok1, re.le l1, (Fin.bind h1).imp fun y w2 l2 ok2 h2 u ru => ?_⟩
  refine hr x y v u w2 _ ok2 (rv.le l2) ru ((Fin.bind h2).imp fun z w3 l3 ok3 h3 zv rz => ?_)
  obtain ⟨k, e, q⟩ := asB_fin ok3 rz (Fin.bind h3)
  refine ⟨k, e, ?_⟩
  cases k with
  | false => exact q w3 (Wd.le.refl _) ok3 rfl _ (.bl false)
  | true =>
    refine ⟨ρ, w3, rfl, ok3, re.le ((l1.trans l2).trans l3), (Fin.bind q).imp fun t w4 l4 ok4 h4 tv rt => ?_⟩
    exact hr' y t u tv w4 Q ok4 ((ru.le l3).le l4) rt h4
theorem de_chain {op op' : CmpOp} {r r' : R2} {g g' : D → D → M D} (ho : OpR X (compareOp op) r) (hr : OpD X.K X.mg E r g) (ho' : OpR X (compareOp op') r') (hr' : OpD X.K X.mg E r' g') (ha : DE X E a f1) (hb : DE X E b f2) (hc : DE X E c f3)
    (hm : lastMarks [op, op'] [b, c] = false := by with_unfolding_all rfl) : DE X E (.Compare a [op, op'] [b, c] pos) (eChain g g' f1 f2 f3) := (pe_chain ho ho' ha hb hc hm).imp fun _ _ _ h => runC hr hr' h
theorem dt_chain {op op' : CmpOp} {r r' : R2} {g g' : D → D → M D} (ho : OpR X (compareOp op) r) (hr : OpD X.K X.mg E r g) (ho' : OpR X (compareOp op') r') (hr' : OpD X.K X.mg E r' g') (ha : DE X E a f1) (hb : DE X E b f2) (hc : DE X E c f3)
    (hm : lastMarks [op, op'] [b, c] = false := by with_unfolding_all rfl) : DT X E (.Compare a [op, op'] [b, c] pos) (toT (eChain g g' f1 f2 f3)) := (pt_chain ho ho' ha hb hc hm).imp fun σ H Q h => by
    obtain ⟨ρ, w, e, ok, re, h'⟩ := runT h
    subst e
    exact runC hr hr' ⟨ρ, w, rfl, ok, re, h'⟩
/-! tests -/
variable {t1 t2 : En → M Bool} {rest : List Expr}
def bAnd (t u : En → M Bool) : En → M Bool := fun ρ => bnd (t ρ) fun c => br c (u ρ) (ret false)
def bOr (t u : En → M Bool) : En → M Bool := fun ρ => bnd (t ρ) fun c => br c (ret true) (u ρ)
def bNot (t : En → M Bool) : En → M Bool := fun ρ => bnd (t ρ) fun c => ret (!c)
theorem dw_and1 (h : DT X E a t1) : DW X E (.BoolOp .And [a] pos) t1 := pw_and1 h
theorem dw_or1 (h : DT X E a t1) : DW X E (.BoolOp .Or [a] pos) t1 := pw_or1 h
theorem dw_and (h : DT X E a t1) (h2 : DW X E (.BoolOp .And (b :: rest) pos) t2) : DW X E (.BoolOp .And (a :: b :: rest) pos) (bAnd t1 t2) := (pw_and h h2).imp fun σ H Q ⟨ρ, w, e, ok, re, h⟩ => by
  subst e
  refine ⟨ρ, w, rfl, ok, re, (Fin.bind h).imp fun k w1 l1 ok1 h1 => ?_⟩
  cases k with
  | true => exact ⟨ρ, w1, rfl, ok1, re.le l1, h1⟩
  | false => exact h1 w1 (Wd.le.refl _) ok1 rfl
theorem dw_or (h : DT X E a t1) (h2 : DW X E (.BoolOp .Or (b :: rest) pos) t2) : DW X E (.BoolOp .Or (a :: b :: rest) pos) (bOr t1 t2) := (pw_or h h2).imp fun σ H Q ⟨ρ, w, e, ok, re, h⟩ => by
  subst e
  refine ⟨ρ, w, rfl, ok, re, (Fin.bind h).imp fun k w1 l1 ok1 h1 => ?_⟩
  cases k with
  | false => exact ⟨ρ, w1, rfl, ok1, re.le l1, h1⟩
  | true => exact h1 w1 (Wd.le.refl _) ok1 rfl
theorem dt_w (h : DW X E e t1) : DT X E e t1 := h.pt
theorem dt_not (h : DT X E a t1) : DT X E (.UnaryOp .Not a pos) (bNot t1) := (pt_not h).imp fun σ H Q ⟨ρ, w, e, ok, re, h⟩ => by
  subst e
  exact ⟨ρ, w, rfl, ok, re, (Fin.bind h).imp fun k w1 l1 ok1 h1 => h1 w1 (Wd.le.refl _) ok1 rfl⟩
/-! and, or, not as values -/
def eAnd (f g : En → M D) : En → M D := fun ρ => bnd (f ρ) fun x => bnd (asB x) fun c => br c (g ρ) (ret (.bl false))
def eOr (f g : En → M D) : En → M D := fun ρ => bnd (f ρ) fun x => bnd (asB x) fun c => br c (ret (.bl true)) (g ρ)
def eNot (f : En → M D) : En → M D := fun ρ => bnd (f ρ) fun x => bnd (asB x) fun c => ret (.bl (!c))
theorem de_one {op} (h : DE X E a f1) : DE X E (.BoolOp op [a] pos) f1 := pe_one h
theorem de_and (h : DE X E a f1) (h2 : DE X E (.BoolOp .And (b :: rest) pos) f2) : DE X E (.BoolOp .And (a :: b :: rest) pos) (eAnd f1 f2) := (pe_and h h2).imp fun σ H Q ⟨ρ, w, e, ok, re, h⟩ => by
  subst e
  refine ⟨ρ, w, rfl, ok, re, (Fin.bind h).imp fun x w1 l1 ok1 h1 v rv => ?_⟩
  obtain ⟨k, e, q⟩ := asB_fin ok1 rv (Fin.bind h1)
  refine ⟨k, e, ?_⟩
  cases k with
  | true => exact ⟨ρ, w1, rfl, ok1, re.le l1, q⟩
  | false => exact q w1 (Wd.le.refl _) ok1 rfl _ (.bl false)
theorem de_or (h : DE X E a f1) (h2 : DE X E (.BoolOp .Or (b :: rest) pos) f2) : DE X E (.BoolOp .Or (a :: b :: rest) pos) (eOr f1 f2) := (pe_or h h2).imp fun σ H Q ⟨ρ, w, e, ok, re, h⟩ => by
  subst e
  refine ⟨ρ, w, rfl, ok, re, (Fin.bind h).imp fun x w1 l1 ok1 h1 v rv => ?_⟩
  obtain ⟨k, e, q⟩ := asB_fin ok1 rv (Fin.bind h1)
  refine ⟨k, e, ?_⟩
  cases k with
  | false => exact ⟨ρ, w1, rfl, ok1, re.le l1, q⟩
  | true => exact q w1 (Wd.le.refl _) ok1 rfl _ (.bl true)
theorem de_not (h : DE X E a f1) : DE X E (.UnaryOp .Not a pos) (eNot f1) := (pe_not h).imp fun σ H Q ⟨ρ, w, e, ok, re, h⟩ => by
  subst e
  refine ⟨ρ, w, rfl, ok, re, (Fin.bind h).imp fun x w1 l1 ok1 h1 v rv => ?_⟩
  obtain ⟨k, e, q⟩ := asB_fin ok1 rv (Fin.bind h1)
  exact ⟨k, e, q w1 (Wd.le.refl _) ok1 rfl _ (.bl _)⟩
def eIf (t : En → M Bool) (f g : En → M D) : En → M D := fun ρ => bnd (t ρ) fun c => br c (f ρ) (g ρ)
theorem de_if (hc : DT X E c t1) (ha : DE X E a f1) (hb : DE X E b f2) : DE X E (.IfExp c a b pos) (eIf t1 f1 f2) := (pe_ifExp hc ha hb).imp fun σ H Q ⟨ρ, w, e, ok, re, h⟩ => by
  subst e
  refine ⟨ρ, w, rfl, ok, re, (Fin.bind h).imp fun k w1 l1 ok1 h1 => ?_⟩
  cases k with
  | true => exact ⟨ρ, w1, rfl, ok1, re.le l1, h1⟩
  | false => exact ⟨ρ, w1, rfl, ok1, re.le l1, h1⟩
/-- -a -/
def eNeg (f : En → M D) : En → M D := fun ρ => bnd (f ρ) fun x => match x with | .int i => ret (.int (-i)) | _ => stuck
theorem de_neg (h : DE X E a f1) : DE X E (.UnaryOp .USub a pos) (eNeg f1) := (pe_un un_neg h).imp fun σ H Q ⟨ρ, w, e, ok, re, h⟩ => by
  subst e
  refine ⟨ρ, w, rfl, ok, re, (Fin.bind h).imp fun x w1 l1 ok1 h1 v rv => ?_⟩
  cases rv with
  | int i => exact ⟨i, rfl, h1 w1 (Wd.le.refl _) ok1 rfl _ (.int _)⟩
  | bl b => exact h1.elim
  | non => exact h1.elim
  | str => exact h1.elim
  | tup => exact h1.elim
  | lst => exact h1.elim
  | fz => exact h1.elim
  | gl => exact h1.elim
  | loc => exact h1.elim
/-! arguments, displays -/
variable {es : List Expr} {fa : En → M (List D)}
def aNil : En → M (List D) := fun _ => ret []
def aCons (f : En → M D) (g : En → M (List D)) : En → M (List D) := fun ρ => bnd (f ρ) fun x => bnd (g ρ) fun xs => ret (x :: xs)
theorem da_nil : DA X E [] aNil := pa_nil.imp fun σ H Q ⟨ρ, w, e, ok, re, h⟩ => by
  subst e
  exact h w (Wd.le.refl _) ok rfl _ .nil
theorem da_cons (ha : DE X E e f1) (hr : DA X E es fa) (hs : starEach (e :: es) X.env = (false, eval e X.env) :: starEach es X.env := by rfl) : DA X E (e :: es) (aCons f1 fa) := (pa_cons ha hr hs).imp fun σ H Q ⟨ρ, w, e, ok, re, h⟩ => by
  subst e
  refine ⟨ρ, w, rfl, ok, re, (Fin.bind h).imp fun x w1 l1 ok1 h1 v rv => ?_⟩
  refine ⟨ρ, w1, rfl, ok1, re.le l1, (Fin.bind h1).imp fun xs w2 l2 ok2 h2 vs rvs => ?_⟩
  exact h2 w2 (Wd.le.refl _) ok2 rfl _ (.cons (rv.le l2) rvs)
def szOk (n : Nat) : Bool := decide (n ≤ 16777216)
theorem szOk_le {n : Nat} (h : szOk n = true) : n ≤ sizeLine := by rw [sizeLine_eq]; exact of_decide_eq_true h
def mkTup (ds : List D) : M D := if szOk ds.length = true then ret (.tup ds) else stuck
def mkLst (ds : List D) : M D := if szOk ds.length = true then ret (.lst ds) else stuck
/-- a new list that may be written: a cell -/
def mkLoc (ds : List D) : M D := fun s => if szOk ds.length = true then .ok (.loc s.length) (s ++ [some (.lst ds)]) else .no
theorem fin_tup {ds : List D} {vs : List V} {w : Wd} {Q : VK} (ok : w.Ok K) (r : w.repL K ds vs) (h : Fin K mg E w (mkTup ds w.s) fun d w' => ∀ v, w'.rep K d v → Q v w'.H) : vs.length ≤ sizeLine ∧ ∀ p, w.H p = none → Q (.ref p) (upd w.H p (.tup vs)) := by
  unfold mkTup at h
  by_cases z : szOk ds.length = true
  · rw [if_pos z] at h
    refine ⟨by rw [← r.length]; exact szOk_le z, fun p hp => ?_⟩
    obtain ⟨ok', l'⟩ := ok.newI hp (.tup vs)
    exact h _ l' ok' rfl _ (.tup upd_same (r.le l'))
  · rw [if_neg z] at h; exact h.elim
theorem fin_lst {ds : List D} {vs : List V} {w : Wd} {Q : VK} (ok : w.Ok K) (r : w.repL K ds vs) (h : Fin K mg E w (mkLst ds w.s) fun d w' => ∀ v, w'.rep K d v → Q v w'.H) : vs.length ≤ sizeLine ∧ ∀ p, w.H p = none → Q (.ref p) (upd w.H p (.lst vs)) := by
  unfold mkLst at h
  by_cases z : szOk ds.length = true
  · rw [if_pos z] at h
    refine ⟨by rw [← r.length]; exact szOk_le z, fun p hp => ?_⟩
    obtain ⟨ok', l'⟩ := ok.newI hp (.lst vs)
    exact h _ l' ok' rfl _ (.lst upd_same (r.le l'))
  · rw [if_neg z] at h; exact h.elim
theorem fin_loc {ds : List D} {vs : List V} {w : Wd} {Q : VK} (ok : w.Ok K) (r : w.repL K ds vs) (h : Fin K mg E w (mkLoc ds w.s) fun d w' => ∀ v, w'.rep K d v → Q v w'.H) : vs.length ≤ sizeLine ∧ ∀ p, w.H p = none → Q (.ref p) (upd w.H p (.lst vs)) := by
  unfold mkLoc at h
  by_cases z : szOk ds.length = true
  · rw [if_pos z] at h
    refine ⟨by rw [← r.length]; exact szOk_le z, fun p hp => ?_⟩
    obtain ⟨ok', l'⟩ := ok.newL hp (c := .lst ds) (o := .lst vs) fun H' e => ⟨vs, e, r.mono (fun _ _ e => e) (List.prefix_append _ _)⟩
    refine h _ l' ok' rfl _ (.loc ?_)
    rw [← ok.len]
    show (w.L ++ [p])[w.L.length]? = some p
    rw [List.getElem?_append_right (Nat.le_refl _), Nat.sub_self]; rfl
  · rw [if_neg z] at h; exact h.elim
def eTup (fa : En → M (List D)) : En → M D := fun ρ => bnd (fa ρ) mkTup
def eLst (fa : En → M (List D)) : En → M D := fun ρ => bnd (fa ρ) mkLst
def eLoc (fa : En → M (List D)) : En → M D := fun ρ => bnd (fa ρ) mkLoc
theorem de_tup {x1} (h : DA X E es fa) : DE X E (.Tuple es x1 pos) (eTup fa) := (pe_tup h).imp fun σ H Q ⟨ρ, w, e, ok, re, h⟩ => by
  subst e
  exact ⟨ρ, w, rfl, ok, re, (Fin.bind h).imp fun ds w1 l1 ok1 h1 vs rv => fin_tup ok1 rv h1⟩
theorem de_lst (h : DA X E es fa) : DE X E (.List es pos) (eLst fa) := (pe_lst h).imp fun σ H Q ⟨ρ, w, e, ok, re, h⟩ => by
  subst e
  exact ⟨ρ, w, rfl, ok, re, (Fin.bind h).imp fun ds w1 l1 ok1 h1 vs rv => fin_lst ok1 rv h1⟩
theorem de_loc (h : DA X E es fa) : DE X E (.List es pos) (eLoc fa) := (pe_lst h).imp fun σ H Q ⟨ρ, w, e, ok, re, h⟩ => by
  subst e
  exact ⟨ρ, w, rfl, ok, re, (Fin.bind h).imp fun ds w1 l1 ok1 h1 vs rv => fin_loc ok1 rv h1⟩
/-- what a list is given up for: data -/
def frz : D → M D
  | .loc n => fun s => match s[n]? with | some (some (.lst ds)) => .ok (.lst ds) (s.set n none) | _ => .no
  | d => ret d
theorem fin_frz {d : D} {v : V} {w : Wd} {Q : D → Wd → Prop} (ok : w.Ok K) (r : w.rep K d v) (h : Fin K mg E w (frz d w.s) Q) : ∃ d' w', w.le w' ∧ w'.Ok K ∧ w'.H = w.H ∧ w'.rep K d' v ∧ Q d' w' := by
  cases r with
  | loc e =>
    rename_i n a
    unfold frz at h
    simp only at h
    split at h
    · rename_i ds hs
      obtain ⟨w', ok', l', es', eh, r'⟩ := ok.freeze e hs
      exact ⟨_, w', l', ok', eh, r', h w' l' ok' es'⟩
    · exact h.elim
  | bl b => exact ⟨_, w, Wd.le.refl _, ok, rfl, .bl b, h w (Wd.le.refl _) ok rfl⟩
  | int b => exact ⟨_, w, Wd.le.refl _, ok, rfl, .int b, h w (Wd.le.refl _) ok rfl⟩
  | str b => exact ⟨_, w, Wd.le.refl _, ok, rfl, .str b, h w (Wd.le.refl _) ok rfl⟩
  | non => exact ⟨_, w, Wd.le.refl _, ok, rfl, .non, h w (Wd.le.refl _) ok rfl⟩
  | tup e r => exact ⟨_, w, Wd.le.refl _, ok, rfl, .tup e r, h w (Wd.le.refl _) ok rfl⟩
  | lst e r => exact ⟨_, w, Wd.le.refl _, ok, rfl, .lst e r, h w (Wd.le.refl _) ok rfl⟩
  | fz e r => exact ⟨_, w, Wd.le.refl _, ok, rfl, .fz e r, h w (Wd.le.refl _) ok rfl⟩
  | gl e => exact ⟨_, w, Wd.le.refl _, ok, rfl, .gl e, h w (Wd.le.refl _) ok rfl⟩
def eFrz (f : En → M D) : En → M D := fun ρ => bnd (f ρ) frz
theorem de_frz (h : DE X E e f1) : DE X E e (eFrz f1) := h.imp fun σ H Q ⟨ρ, w, e, ok, re, h⟩ => by
  subst e
  refine ⟨ρ, w, rfl, ok, re, (Fin.bind h).imp fun d w1 l1 ok1 h1 v rv => ?_⟩
  obtain ⟨d', w', l', ok', eh, r', q⟩ := fin_frz ok1 rv h1
  rw [← eh]
  exact q v r'
end
end DL

namespace DL
open PySem PySem.Spec PyProof.Rows L2

/-! ### looking at data -/
def D.i? : D → Option Int
  | .int i => some i
  | _ => none
def D.t? : D → Option (List D)
  | .tup ds => some ds
  | _ => none
def D.b? : D → Option Bool
  | .bl b => some b
  | _ => none
def D.isNon : D → Bool
  | .non => true
  | _ => false
/-- a list's items: data, or a cell's -/
def viewL (s : Sto) : D → Option (List D)
  | .lst ds => some ds
  | .loc n => match s[n]? with | some (some (.lst ds)) => some ds | _ => none
  | _ => none
/-- what may be read by places: a list (the script too), a tuple -/
def viewF (s : Sto) : D → Option (List D)
  | .fz ds => some ds
  | d => viewL s d
def viewR (s : Sto) : D → Option (List D)
  | .tup ds => some ds
  | d => viewF s d
/-- a cell's list as data -/
def vw (s : Sto) : D → D
  | .loc n => match s[n]? with | some (some (.lst ds)) => .lst ds | _ => .loc n
  | d => d
mutual
def D.py : D → PyData
  | .non => .none
  | .bl b => .bool b
  | .int i => .int i
  | .str x => .str x
  | .tup ds => .tuple (D.pys ds)
  | .lst ds => .list (D.pys ds)
  | .fz _ => .dict []
  | .loc _ => .dict []
  | .gl _ => .dict []
def D.pys : List D → List PyData
  | [] => []
  | d :: ds => D.py d :: D.pys ds
end
theorem pys_map : ∀ ds : List D, D.pys ds = ds.map D.py
  | [] => rfl
  | d :: ds => by rw [D.pys, pys_map ds]; rfl
def okD (d : D) : Bool := SeqAt.shaped d.py
def eqv (a b : D) : Bool := PyData.eqv a.py b.py
section
variable {K : PySem.W.Frag} {mg : Str → Option Value} {E : XK} {w : Wd}
theorem rep_int {d : D} {v : V} {i : Int} (r : w.rep K d v) (h : d.i? = some i) : v = .int i := by
  cases r <;> first | (cases h; rfl) | cases h
theorem rep_bl {d : D} {v : V} {i : Bool} (r : w.rep K d v) (h : d.b? = some i) : v = .bl i := by
  cases r <;> first | (cases h; rfl) | cases h
theorem rep_tup {d : D} {v : V} {ds : List D} (r : w.rep K d v) (h : d.t? = some ds) : ∃ a xs, v = .ref a ∧ w.I a = some (.tup xs) ∧ w.repL K ds xs := by
  cases r with
  | tup e r => cases h; exact ⟨_, _, rfl, e, r⟩
  | _ => cases h
theorem rep_non {d : D} {v : V} (r : w.rep K d v) : decide (v = .non) = d.isNon := by
  cases r <;> rfl
theorem rep_lst (ok : w.Ok K) {d : D} {v : V} {ds : List D} (r : w.rep K d v) (h : viewL w.s d = some ds) : ∃ a xs, v = .ref a ∧ w.H a = some (.lst xs) ∧ w.repL K ds xs := by
  cases r with
  | lst e r => cases h; exact ⟨_, _, rfl, ok.fr _ _ e, r⟩
  | loc e =>
    rename_i n a
    have h' : (match w.s[n]? with | some (some (.lst ds)) => some ds | _ => none) = some ds := h
    split at h'
    · rename_i ds' hs
      cases h'
      obtain ⟨_, xs, hx, r⟩ := ok.cell n a _ e hs
      exact ⟨_, xs, rfl, hx, r⟩
    · cases h'
  | _ => cases h
theorem sq_fr (ok : w.Ok K) {a : Addr} {xs : List V} (h : SqL K w.I a xs) : SqL K w.H a xs := seqL_mono ok.fr h
theorem rep_rf (ok : w.Ok K) {d : D} {v : V} {ds : List D} (r : w.rep K d v) (h : viewF w.s d = some ds) : ∃ a xs, v = .ref a ∧ SqL K w.H a xs ∧ w.repL K ds xs := by
  by_cases hd : ∃ es, d = .fz es
  · obtain ⟨es, rfl⟩ := hd
    cases h
    cases r with
    | fz e r => exact ⟨_, _, rfl, sq_fr ok e, r⟩
  · have h' : viewL w.s d = some ds := by
      cases d with
      | fz es => exact absurd ⟨es, rfl⟩ hd
      | _ => exact h
    obtain ⟨a, xs, e1, e2, r'⟩ := rep_lst ok r h'
    exact ⟨a, xs, e1, SqL.of e2, r'⟩
theorem rep_rd (ok : w.Ok K) {d : D} {v : V} {ds : List D} (r : w.rep K d v) (h : viewR w.s d = some ds) : ∃ a xs, v = .ref a ∧ (SqL K w.H a xs ∨ SqT K w.H a xs) ∧ w.repL K ds xs := by
  by_cases hd : ∃ es, d = .tup es
  · obtain ⟨es, rfl⟩ := hd
    cases h
    cases r with
    | tup e r => exact ⟨_, _, rfl, .inr (SqT.of (ok.fr _ _ e)), r⟩
  · have h' : viewF w.s d = some ds := by
      cases d with
      | tup es => exact absurd ⟨es, rfl⟩ hd
      | _ => exact h
    obtain ⟨a, xs, e1, e2, r'⟩ := rep_rf ok r h'
    exact ⟨a, xs, e1, .inl e2, r'⟩
mutual
theorem rep_dp (ok : w.Ok K) : ∀ (d : D) (v : V), w.rep K d v → d.py.canLay0 = true → Dp K w.H v d.py
  | _, _, .non, _ => .non
  | _, _, .bl b, _ => .bl b
  | _, _, .int b, _ => .int b
  | _, _, .str b, _ => .str b
  | .tup ds, _, .tup e r, h => .tup (SqT.of (ok.fr _ _ e)) (repL_dp ok ds _ r h)
  | .lst ds, _, .lst e r, h => .lst (SqL.of (ok.fr _ _ e)) (repL_dp ok ds _ r h)
  | _, _, .fz _ _, h => nomatch h
  | _, _, .loc _, h => nomatch h
  | _, _, .gl _, h => nomatch h
theorem repL_dp (ok : w.Ok K) : ∀ (ds : List D) (vs : List V), w.repL K ds vs → PyData.canLayAll0 (D.pys ds) = true → DpAll K w.H vs (D.pys ds)
  | _, _, .nil, _ => .nil
  | d :: ds, _, .cons a b, h => by
    have h' : (d.py.canLay0 && PyData.canLayAll0 (D.pys ds)) = true := h
    rw [Bool.and_eq_true] at h'
    exact .cons (rep_dp ok d _ a h'.1) (repL_dp ok ds _ b h'.2)
end
theorem vw_dp (ok : w.Ok K) {d : D} {v : V} (r : w.rep K d v) (h : okD (vw w.s d) = true) : Dp K w.H v (vw w.s d).py := by
  have hc : (vw w.s d).py.canLay0 = true := SeqAt.canLay_of_shaped h
  cases d with
  | loc n =>
    cases r with
    | loc e =>
      have hc' : (match w.s[n]? with | some (some (.lst ds)) => D.lst ds | _ => .loc n).py.canLay0 = true := hc
      show Dp K w.H _ (match w.s[n]? with | some (some (.lst ds)) => D.lst ds | _ => .loc n).py
      split at hc'
      · rename_i ds hs
        obtain ⟨_, xs, hx, r⟩ := ok.cell n _ _ e hs
        exact .lst (SqL.of hx) (repL_dp ok ds _ r hc')
      · cases hc'
  | _ => exact rep_dp ok _ v r hc
/-! ### operators -/
theorem fin_ret {α : Type} {a : α} {Q : α → Wd → Prop} (ok : w.Ok K) (h : Fin K mg E w (ret a w.s) Q) : Q a w := h w (Wd.le.refl w) ok rfl
/-- two ints -/
def oI (C : Int → Int → Bool) (h : Int → Int → D) (x y : D) : M D := fun s => match x.i?, y.i? with
  | some i, some j => if C i j = true then .ok (h i j) s else .no
  | _, _ => .no
theorem oI_fin {C : Int → Int → Bool} {h : Int → Int → D} {x y : D} {v u : V} {Q : D → Wd → Prop} (ok : w.Ok K) (rx : w.rep K x v) (ry : w.rep K y u) (q : Fin K mg E w (oI C h x y w.s) Q) :
    ∃ i j, v = .int i ∧ u = .int j ∧ C i j = true ∧ Q (h i j) w := by
  unfold oI at q
  split at q
  · rename_i i j h1 h2
    split at q
    · rename_i hc
      exact ⟨i, j, rep_int rx h1, rep_int ry h2, hc, fin_ret ok q⟩
    · exact q.elim
  · exact q.elim
def cT : Int → Int → Bool := fun _ _ => true
def cPos : Int → Int → Bool := fun _ j => decide (0 < j)
def cDiv : Int → Int → Bool := fun _ j => decide (0 < j ∧ j < 1073741824)
def cMul : Int → Int → Bool := fun i j => decide ((-18446744073709551616 < i ∧ i < 18446744073709551616) ∨ (-18446744073709551616 < j ∧ j < 18446744073709551616))
def cPow : Int → Int → Bool := fun i j => decide (0 ≤ j ∧ j ≤ 1000000 ∧ -18446744073709551616 < i ∧ i < 18446744073709551616)
abbrev subD : D → D → M D := oI cT fun i j => .int (i - j)
abbrev mulD : D → D → M D := oI cMul fun i j => .int (i * j)
abbrev divD : D → D → M D := oI cDiv fun i j => .int (i / j)
abbrev modD : D → D → M D := oI cPos fun i j => .int (i % j)
abbrev powD : D → D → M D := oI cPow fun i j => .int (i ^ j.toNat)
abbrev ltD : D → D → M D := oI cT fun i j => .bl (decide (i < j))
abbrev leD : D → D → M D := oI cT fun i j => .bl (decide (i ≤ j))
abbrev gtD : D → D → M D := oI cT fun i j => .bl (decide (j < i))
abbrev geD : D → D → M D := oI cT fun i j => .bl (decide (j ≤ i))
theorem od_I0 {g : Int → Int → V} {h : Int → Int → D} (hr : ∀ (w : Wd) i j, w.rep K (h i j) (g i j)) : OpD K mg E (rI0 g) (oI cT h) := fun x y v u w Q ok rx ry q => by
  obtain ⟨i, j, e1, e2, _, q⟩ := oI_fin ok rx ry q
  exact ⟨i, j, e1, e2, q _ (hr w i j)⟩
theorem od_I {C : Int → Int → Prop} {c : Int → Int → Bool} {g : Int → Int → V} {h : Int → Int → D} (hc : ∀ i j, c i j = true → C i j) (hr : ∀ (w : Wd) i j, w.rep K (h i j) (g i j)) : OpD K mg E (rI C g) (oI c h) := fun x y v u w Q ok rx ry q => by
  obtain ⟨i, j, e1, e2, e3, q⟩ := oI_fin ok rx ry q
  exact ⟨i, j, e1, e2, hc i j e3, q _ (hr w i j)⟩
theorem od_sub : OpD K mg E (rI0 fun i j => .int (i - j)) subD := od_I0 fun _ _ _ => .int _
theorem od_mul : OpD K mg E (rI CMul fun i j => .int (i * j)) mulD := od_I (fun i j h => by
  have h' := of_decide_eq_true h
  have e : (2 : Int) ^ 64 = 18446744073709551616 := by decide
  unfold CMul; rw [e]; exact h') fun _ _ _ => .int _
theorem od_div : OpD K mg E (rI CDiv fun i j => .int (i / j)) divD := od_I (fun i j h => (of_decide_eq_true h : 0 < j ∧ j < 1073741824)) fun _ _ _ => .int _
theorem od_mod : OpD K mg E (rI (fun _ j => 0 < j) fun i j => .int (i % j)) modD := od_I (fun i j h => of_decide_eq_true h) fun _ _ _ => .int _
theorem od_pow : OpD K mg E (rI CPow fun i j => .int (i ^ j.toNat)) powD := od_I (fun i j h => by
  have h' : 0 ≤ j ∧ j ≤ 1000000 ∧ -18446744073709551616 < i ∧ i < 18446744073709551616 := of_decide_eq_true h
  have e : (2 : Nat) ^ 64 = 18446744073709551616 := by decide
  refine ⟨h'.1, h'.2.1, ?_⟩
  rw [e]; omega) fun _ _ _ => .int _
theorem od_lt : OpD K mg E (rI0 fun i j => .bl (decide (i < j))) ltD := od_I0 fun _ _ _ => .bl _
theorem od_le : OpD K mg E (rI0 fun i j => .bl (decide (i ≤ j))) leD := od_I0 fun _ _ _ => .bl _
theorem od_gt : OpD K mg E (rI0 fun i j => .bl (decide (j < i))) gtD := od_I0 fun _ _ _ => .bl _
theorem od_ge : OpD K mg E (rI0 fun i j => .bl (decide (j ≤ i))) geD := od_I0 fun _ _ _ => .bl _
/-- + of ints, tuples, lists -/
def addD (x y : D) : M D := fun s => match x.i?, y.i? with
  | some i, some j => .ok (.int (i + j)) s
  | _, _ => match x.t?, y.t? with
    | some xs, some ys => mkTup (xs ++ ys) s
    | _, _ => match viewL s x, viewL s y with
      | some xs, some ys => mkLst (xs ++ ys) s
      | _, _ => .no
theorem repL_nil {ds : List D} {vs : List V} (r : w.repL K ds vs) : ds = [] ↔ vs = [] := by cases r <;> simp
theorem od_add : OpD K mg E (fun x y H Q => rI0 (fun i j => .int (i + j)) x y H Q ∨ rCat x y H Q ∨ rCatA K x y H Q) addD := fun x y v u w Q ok rx ry q => by
  unfold addD at q
  split at q
  · rename_i i j h1 h2
    exact .inl ⟨i, j, rep_int rx h1, rep_int ry h2, q w (Wd.le.refl w) ok rfl _ (.int _)⟩
  · split at q
    · rename_i xs ys h1 h2
      obtain ⟨a, us, rfl, ha, ra⟩ := rep_tup rx h1
      obtain ⟨b, vs, rfl, hb, rb⟩ := rep_tup ry h2
      obtain ⟨q1, q2⟩ := fin_tup ok (ra.append rb) q
      rw [List.length_append] at q1
      refine .inr (.inr ⟨a, b, us, vs, rfl, rfl, SqT.of (ok.fr _ _ ha), SqT.of (ok.fr _ _ hb), q1, fun e => ?_, fun e e' => ?_, fun _ _ => q2⟩)
      · have e0 := (repL_nil ra).2 e
        subst e0
        unfold mkTup at q
        have z : szOk ([] ++ ys).length = true := by
          by_cases z : szOk ([] ++ ys).length = true
          · exact z
          · rw [if_neg z] at q; exact q.elim
        rw [if_pos z] at q
        exact fin_ret ok q _ (.tup hb rb)
      · have e0 := (repL_nil rb).2 e'
        subst e0
        unfold mkTup at q
        have z : szOk (xs ++ []).length = true := by
          by_cases z : szOk (xs ++ []).length = true
          · exact z
          · rw [if_neg z] at q; exact q.elim
        rw [if_pos z] at q
        rw [List.append_nil] at q
        exact fin_ret ok q _ (.tup ha ra)
    · split at q
      · rename_i xs ys h1 h2
        obtain ⟨a, us, rfl, ha, ra⟩ := rep_lst ok rx h1
        obtain ⟨b, vs, rfl, hb, rb⟩ := rep_lst ok ry h2
        obtain ⟨q1, q2⟩ := fin_lst ok (ra.append rb) q
        rw [List.length_append] at q1
        exact .inr (.inl ⟨a, b, us, vs, rfl, rfl, ha, hb, q1, q2⟩)
      · exact q.elim
/-- == -/
def eqD (x y : D) : M D := fun s => if (okD (vw s x) && okD (vw s y)) = true then .ok (.bl (eqv (vw s x) (vw s y))) s else .no
def neD (x y : D) : M D := fun s => if (okD (vw s x) && okD (vw s y)) = true then .ok (.bl (!eqv (vw s x) (vw s y))) s else .no
theorem od_eq : OpD K mg E (rEqD K) eqD := fun x y v u w Q ok rx ry q => by
  unfold eqD at q
  split at q
  · rename_i h
    rw [Bool.and_eq_true] at h
    exact ⟨_, _, vw_dp ok rx h.1, vw_dp ok ry h.2, h.1, h.2, q w (Wd.le.refl w) ok rfl _ (.bl _)⟩
  · exact q.elim
theorem od_ne : OpD K mg E (rNeD K) neD := fun x y v u w Q ok rx ry q => by
  unfold neD at q
  split at q
  · rename_i h
    rw [Bool.and_eq_true] at h
    exact ⟨_, _, vw_dp ok rx h.1, vw_dp ok ry h.2, h.1, h.2, q w (Wd.le.refl w) ok rfl _ (.bl _)⟩
  · exact q.elim
/-- is None, is a bool -/
def isD (x y : D) : M D := fun s => if y.isNon = true then .ok (.bl x.isNon) s else match x.b?, y.b? with
  | some a, some b => .ok (.bl (decide (a = b))) s
  | _, _ => .no
def isntD (x y : D) : M D := fun s => if y.isNon = true then .ok (.bl (!x.isNon)) s else match x.b?, y.b? with
  | some a, some b => .ok (.bl (!decide (a = b))) s
  | _, _ => .no
theorem rep_isNon {d : D} {v : V} (r : w.rep K d v) (h : d.isNon = true) : v = .non := by
  cases r <;> first | rfl | cases h
theorem od_is : OpD K mg E (fun x y H Q => (y = V.non ∧ Q (.bl (decide (x = .non))) H) ∨ rIsB x y H Q) isD := fun x y v u w Q ok rx ry q => by
  unfold isD at q
  split at q
  · rename_i h
    refine .inl ⟨rep_isNon ry h, ?_⟩
    rw [rep_non rx]
    exact fin_ret ok q _ (.bl _)
  · split at q
    · rename_i a b h1 h2
      exact .inr ⟨a, b, rep_bl rx h1, rep_bl ry h2, fin_ret ok q _ (.bl _)⟩
    · exact q.elim
theorem od_isnt : OpD K mg E (fun x y H Q => (y = V.non ∧ Q (.bl (!decide (x = .non))) H) ∨ rNotB x y H Q) isntD := fun x y v u w Q ok rx ry q => by
  unfold isntD at q
  split at q
  · rename_i h
    refine .inl ⟨rep_isNon ry h, ?_⟩
    rw [rep_non rx]
    exact fin_ret ok q _ (.bl _)
  · split at q
    · rename_i a b h1 h2
      exact .inr ⟨a, b, rep_bl rx h1, rep_bl ry h2, fin_ret ok q _ (.bl _)⟩
    · exact q.elim
/-- in, not in: a list of data; a tuple of flat things -/
def flatD : D → Bool
  | .non => true
  | .bl _ => true
  | .int _ => true
  | .str _ => true
  | _ => false
theorem rep_flat {d : D} {v : V} (r : w.rep K d v) (h : flatD d = true) : flatV v = true := by cases r <;> first | rfl | cases h
theorem repL_flat : ∀ {ds : List D} {vs : List V}, w.repL K ds vs → ds.all flatD = true → vs.all flatV = true
  | _, _, .nil, _ => rfl
  | _, _, .cons r t, h => by
    rw [List.all_cons, Bool.and_eq_true] at h ⊢
    exact ⟨rep_flat r h.1, repL_flat t h.2⟩
theorem flat_eqv {a b : D} {v u : V} (ra : w.rep K a v) (rb : w.rep K b u) (ha : flatD a = true) (hb : flatD b = true) : eqV v u = eqv a b := by
  cases ra <;> first | (cases rb <;> first | rfl | cases hb) | cases ha
theorem flat_any {x : D} {v : V} (rx : w.rep K x v) (hx : flatD x = true) : ∀ {ds : List D} {vs : List V}, w.repL K ds vs → ds.all flatD = true → inV v vs = ds.any fun z => eqv z x
  | _, _, .nil, _ => rfl
  | _, _, .cons r t, h => by
    rw [List.all_cons, Bool.and_eq_true] at h
    unfold inV
    rw [List.any_cons, List.any_cons, flat_eqv r rx h.1 hx]
    have := flat_any rx hx t h.2
    unfold inV at this
    rw [this]
def memD (neg : Bool) (x y : D) : M D := fun s => match y.t? with
  | some ds => if (flatD x && ds.all flatD) = true then .ok (.bl (if neg = true then !ds.any fun z => eqv z x else ds.any fun z => eqv z x)) s else .no
  | none => match vw s y with
    | .lst ds => if (okD x && okD (.lst ds)) = true then .ok (.bl (if neg = true then !ds.any fun z => eqv z x else ds.any fun z => eqv z x)) s else .no
    | _ => .no
theorem vw_self {s : Sto} {d : D} (h : okD d = true) : vw s d = d := by
  cases d with
  | loc n => cases h
  | _ => rfl
theorem od_in : OpD K mg E (fun x y H Q => rInD K x y H Q ∨ rIn K false x y H Q) (memD false) := fun x y v u w Q ok rx ry q => by
  unfold memD at q
  split at q
  · rename_i ds h
    split at q
    · rename_i hf
      rw [Bool.and_eq_true] at hf
      obtain ⟨a, xs, rfl, ha, ra⟩ := rep_tup ry h
      refine .inr ⟨a, xs, rfl, .inr (SqT.of (ok.fr _ _ ha)), rep_flat rx hf.1, repL_flat ra hf.2, ?_⟩
      rw [if_neg Bool.false_ne_true, flat_any rx hf.1 ra hf.2]
      exact q w (Wd.le.refl w) ok rfl _ (.bl _)
    · exact q.elim
  · split at q
    · rename_i ds hv
      split at q
      · rename_i hf
        rw [Bool.and_eq_true] at hf
        have hy : Dp K w.H u (D.lst ds).py := by
          have z := vw_dp ok ry (by rw [hv]; exact hf.2)
          rw [hv] at z; exact z
        have hx : Dp K w.H v x.py := by
          have z := vw_dp ok rx (by rw [vw_self hf.1]; exact hf.1)
          rw [vw_self hf.1] at z; exact z
        refine .inl ⟨_, _, hx, hy, hf.1, hf.2, ?_⟩
        rw [if_neg Bool.false_ne_true] at q
        have e : ((D.pys ds).any fun z => PyData.eqv z x.py) = ds.any fun z => eqv z x := by
          rw [pys_map, List.any_map]; rfl
        rw [e]
        exact q w (Wd.le.refl w) ok rfl _ (.bl _)
      · exact q.elim
    · exact q.elim
theorem od_notin : OpD K mg E (fun x y H Q => rNotInD K x y H Q ∨ rIn K true x y H Q) (memD true) := fun x y v u w Q ok rx ry q => by
  unfold memD at q
  split at q
  · rename_i ds h
    split at q
    · rename_i hf
      rw [Bool.and_eq_true] at hf
      obtain ⟨a, xs, rfl, ha, ra⟩ := rep_tup ry h
      refine .inr ⟨a, xs, rfl, .inr (SqT.of (ok.fr _ _ ha)), rep_flat rx hf.1, repL_flat ra hf.2, ?_⟩
      rw [if_pos rfl, flat_any rx hf.1 ra hf.2]
      exact q w (Wd.le.refl w) ok rfl _ (.bl _)
    · exact q.elim
  · split at q
    · rename_i ds hv
      split at q
      · rename_i hf
        rw [Bool.and_eq_true] at hf
        have hy : Dp K w.H u (D.lst ds).py := by
          have z := vw_dp ok ry (by rw [hv]; exact hf.2)
          rw [hv] at z; exact z
        have hx : Dp K w.H v x.py := by
          have z := vw_dp ok rx (by rw [vw_self hf.1]; exact hf.1)
          rw [vw_self hf.1] at z; exact z
        refine .inl ⟨_, _, hx, hy, hf.1, hf.2, ?_⟩
        rw [if_pos rfl] at q
        have e : ((D.pys ds).any fun z => PyData.eqv z x.py) = ds.any fun z => eqv z x := by
          rw [pys_map, List.any_map]; rfl
        rw [e]
        exact q w (Wd.le.refl w) ok rfl _ (.bl _)
      · exact q.elim
    · exact q.elim
/-- x[i] -/
def ixD (x y : D) : M D := fun s => match viewR s x, y.i? with
  | some ds, some i => match atI ds i with | some d => .ok d s | none => .no
  | _, _ => .no
theorem repL_at {ds : List D} {vs : List V} {i : Int} {d : D} (r : w.repL K ds vs) (h : atI ds i = some d) : ∃ v, atI vs i = some v ∧ w.rep K d v := by
  unfold atI at h ⊢
  rw [← r.length]
  cases q : ixN ds.length i with
  | none => rw [q] at h; cases h
  | some j =>
    rw [q] at h
    exact r.get h
theorem od_ix : OpD K mg E (rIx K) ixD := fun x y v u w Q ok rx ry q => by
  unfold ixD at q
  split at q
  · rename_i ds i h1 h2
    split at q
    · rename_i d hd
      obtain ⟨a, xs, rfl, hs, ra⟩ := rep_rd ok rx h1
      obtain ⟨v', hv, rv⟩ := repL_at ra hd
      have e := rep_int ry h2
      subst e
      have q' := q w (Wd.le.refl w) ok rfl v' rv
      rcases hs with hs | hs
      · exact .inl ⟨a, xs, i, v', rfl, rfl, hs, hv, q'⟩
      · exact .inr (.inl ⟨a, xs, i, v', rfl, rfl, hs, hv, q'⟩)
    · exact q.elim
  · exact q.elim
end

/-! ### the rules by operators -/
section
variable {X : Cx} {E : XK} {pos : Pos} {a b c e : Expr} {f1 f2 f3 f : En → M D} {k : Nat}
theorem opr_add : OpR X (binaryOp .Add) (fun x y H Q => rI0 (fun i j => .int (i + j)) x y H Q ∨ rCat x y H Q ∨ rCatA X.K x y H Q) := OpR.or op_add (OpR.or op_cat op_catA)
theorem de_add (ha : DE X E a f1) (hb : DE X E b f2) : DE X E (.BinOp a .Add b pos) (e2 addD f1 f2) := de_op opr_add od_add ha hb
theorem de_sub (ha : DE X E a f1) (hb : DE X E b f2) : DE X E (.BinOp a .Sub b pos) (e2 subD f1 f2) := de_op op_sub od_sub ha hb
theorem de_mul (ha : DE X E a f1) (hb : DE X E b f2) : DE X E (.BinOp a .Mult b pos) (e2 mulD f1 f2) := de_op op_mul od_mul ha hb
theorem de_div (ha : DE X E a f1) (hb : DE X E b f2) : DE X E (.BinOp a .FloorDiv b pos) (e2 divD f1 f2) := de_op op_fdiv od_div ha hb
theorem de_mod (ha : DE X E a f1) (hb : DE X E b f2) : DE X E (.BinOp a .Mod b pos) (e2 modD f1 f2) := de_op op_mod od_mod ha hb
theorem de_pow (ha : DE X E a f1) (hb : DE X E b f2) : DE X E (.BinOp a .Pow b pos) (e2 powD f1 f2) := de_op op_pow od_pow ha hb
/-- a comparison's operator, its rule, its mirror -/
structure CmpD (X : Cx) (E : XK) (op : CmpOp) (g : D → D → M D) : Prop where
  ex : ∃ r, OpR X (compareOp op) r ∧ OpD X.K X.mg E r g
theorem c_lt : CmpD X E .Lt ltD := ⟨_, op_lt, od_lt⟩
theorem c_le : CmpD X E .LtE leD := ⟨_, op_le, od_le⟩
theorem c_gt : CmpD X E .Gt gtD := ⟨_, op_gt, od_gt⟩
theorem c_ge : CmpD X E .GtE geD := ⟨_, op_ge, od_ge⟩
theorem c_eq (C : Ctl X E k) : CmpD X E .Eq eqD := ⟨_, op_eqD C.room.units, od_eq⟩
theorem c_ne (C : Ctl X E k) : CmpD X E .NotEq neD := ⟨_, op_neD C.room.units, od_ne⟩
theorem c_is : CmpD X E .Is isD := ⟨_, OpR.or op_isN op_isBl, od_is⟩
theorem c_isnt : CmpD X E .IsNot isntD := ⟨_, OpR.or op_notN op_notBl, od_isnt⟩
theorem c_in (C : Ctl X E k) : CmpD X E .In (memD false) := ⟨_, OpR.or (op_inD (by have := C.room.un; omega)) op_in_seq, od_in⟩
theorem c_notin (C : Ctl X E k) : CmpD X E .NotIn (memD true) := ⟨_, OpR.or (op_notInD (by have := C.room.un; omega)) op_notIn_seq, od_notin⟩
variable {op op' : CmpOp} {g g' : D → D → M D}
theorem de_c1 (ho : CmpD X E op g) (ha : DE X E a f1) (hb : DE X E b f2) (hm : behindInMarks op b = false := by first | exact nomark _ | rfl | with_unfolding_all rfl) : DE X E (.Compare a [op] [b] pos) (e2 g f1 f2) :=
  let ⟨_, h1, h2⟩ := ho.ex; de_cmp h1 h2 ha hb hm
theorem dt_c1 (ho : CmpD X E op g) (ha : DE X E a f1) (hb : DE X E b f2) (hm : behindInMarks op b = false := by first | exact nomark _ | rfl | with_unfolding_all rfl) : DT X E (.Compare a [op] [b] pos) (toT (e2 g f1 f2)) :=
  let ⟨_, h1, h2⟩ := ho.ex; dt_cmp h1 h2 ha hb hm
theorem de_c2 (ho : CmpD X E op g) (ho' : CmpD X E op' g') (ha : DE X E a f1) (hb : DE X E b f2) (hc : DE X E c f3) (hm : lastMarks [op, op'] [b, c] = false := by with_unfolding_all rfl) : DE X E (.Compare a [op, op'] [b, c] pos) (eChain g g' f1 f2 f3) :=
  let ⟨_, h1, h2⟩ := ho.ex; let ⟨_, h3, h4⟩ := ho'.ex; de_chain h1 h2 h3 h4 ha hb hc hm
theorem dt_c2 (ho : CmpD X E op g) (ho' : CmpD X E op' g') (ha : DE X E a f1) (hb : DE X E b f2) (hc : DE X E c f3) (hm : lastMarks [op, op'] [b, c] = false := by with_unfolding_all rfl) : DT X E (.Compare a [op, op'] [b, c] pos) (toT (eChain g g' f1 f2 f3)) :=
  let ⟨_, h1, h2⟩ := ho.ex; let ⟨_, h3, h4⟩ := ho'.ex; dt_chain h1 h2 h3 h4 ha hb hc hm
theorem de_ix (ha : DE X E a f1) (hb : DE X E b f2) (hs : PlainIx b := by exact fun _ _ => rfl) : DE X E (.Subscript a b pos) (e2 ixD f1 f2) := de_ix0 ix_seq od_ix ha hb hs
end
end DL

namespace DL
open PySem PySem.Spec PyProof.Rows L2 RZ

/-! ### slices -/
section
variable (K : PySem.W.Frag) (mg : Str → Option Value) (E : XK)
def tDO (f : En → M (Option Int)) : TO := fun σ H Q => ∃ (ρ : En) (w : Wd), w.H = H ∧ w.Ok K ∧ RepE K w ρ σ ∧ Fin K mg E w (f ρ w.s) fun o w' => Q o w'.H
end
abbrev DO (X : Cx) (E : XK) (e : Option Expr) (f : En → M (Option Int)) : Prop := PO X e (tDO X.K X.mg E f)
def cutD (xs : List D) (lo hi : Option Int) : List D := (xs.drop (HT.sIx xs.length 0 lo)).take (HT.sIx xs.length xs.length hi - HT.sIx xs.length 0 lo)
def slD (x : D) (lo hi : Option Int) : M D := fun s => match x.t? with
  | some ds => .ok (.tup (cutD ds lo hi)) s
  | none => match viewF s x with
    | some ds => .ok (.lst (cutD ds lo hi)) s
    | none => .no
section
variable {X : Cx} {E : XK} {K : PySem.W.Frag} {mg : Str → Option Value} {pos : Pos} {e : Expr} {f : En → M D}
theorem _root_.L2.PO.imp {e : Option Expr} {t t' : TO} (h : PO X e t) (k : ∀ σ H Q, t' σ H Q → t σ H Q) : PO X e t' := ⟨fun pins s σ H Q I hq => h.run pins s σ H Q I (k σ H Q hq)⟩
def oNone : En → M (Option Int) := fun _ => ret none
def asI : D → M Int := fun d s => match d.i? with | some i => .ok i s | none => .no
def oSome (f : En → M D) : En → M (Option Int) := fun ρ => bnd (f ρ) fun x => bnd (asI x) fun i => ret (some i)
theorem asI_fin {x : D} {v : V} {w : Wd} {Q : Int → Wd → Prop} (ok : w.Ok K) (r : w.rep K x v) (h : Fin K mg E w (asI x w.s) Q) : ∃ c, v = .int c ∧ Q c w := by
  unfold asI at h
  split at h
  · rename_i i hi
    exact ⟨i, rep_int r hi, h w (Wd.le.refl w) ok rfl⟩
  · exact h.elim
theorem do_none : DO X E none oNone := po_none.imp fun σ H Q ⟨ρ, w, e, ok, re, h⟩ => by
  subst e
  exact h w (Wd.le.refl w) ok rfl
theorem do_some (h : DE X E e f) : DO X E (some e) (oSome f) := (po_some h).imp fun σ H Q ⟨ρ, w, e, ok, re, h⟩ => by
  subst e
  refine ⟨ρ, w, rfl, ok, re, (Fin.bind h).imp fun x w1 l1 ok1 h1 v rv => ?_⟩
  obtain ⟨i, e, q⟩ := asI_fin ok1 rv (Fin.bind h1)
  exact ⟨i, e, q w1 (Wd.le.refl _) ok1 rfl⟩
theorem repL_cut {w : Wd} {ds : List D} {vs : List V} (r : w.repL K ds vs) (lo hi : Option Int) : w.repL K (cutD ds lo hi) (cutV vs lo hi) := by
  unfold cutD cutV
  rw [r.length]
  exact (r.drop _).take _
theorem cutV_all {xs : List V} {lo hi : Option Int} (h : HT.sIx xs.length 0 lo = 0 ∧ HT.sIx xs.length xs.length hi = xs.length) : cutV xs lo hi = xs := by
  unfold cutV
  rw [h.1, h.2, List.drop_zero, Nat.sub_zero, List.take_length]
def eSl (f : En → M D) (l u : En → M (Option Int)) : En → M D := fun ρ => bnd (f ρ) fun x => bnd (l ρ) fun lo => bnd (u ρ) fun hi => slD x lo hi
theorem sl_run {w : Wd} {x : D} {v : V} {lo hi : Option Int} {Q : VK} (ok : w.Ok K) (r : w.rep K x v) (h : Fin K mg E w (slD x lo hi w.s) fun d w' => ∀ v, w'.rep K d v → Q v w'.H) : rSlL K v lo hi w.H Q ∨ rSlA K v lo hi w.H Q := by
  unfold slD at h
  split at h
  · rename_i ds hd
    obtain ⟨a, xs, rfl, ha, ra⟩ := rep_tup r hd
    refine .inr ⟨a, xs, rfl, SqT.of (ok.fr _ _ ha), fun q => ?_, fun _ p hp => ?_⟩
    · refine h w (Wd.le.refl _) ok rfl _ (.tup (xs := xs) ha ?_)
      have z := repL_cut ra lo hi
      rw [cutV_all q] at z
      exact z
    · obtain ⟨ok', l'⟩ := ok.newI hp (.tup (cutV xs lo hi))
      exact h _ l' ok' rfl _ (.tup upd_same ((repL_cut ra lo hi).le l'))
  · split at h
    · rename_i ds hd
      obtain ⟨a, xs, rfl, hs, ra⟩ := rep_rf ok r hd
      refine .inl ⟨a, xs, rfl, hs, fun p hp => ?_⟩
      obtain ⟨ok', l'⟩ := ok.newI hp (.lst (cutV xs lo hi))
      exact h _ l' ok' rfl _ (.lst upd_same ((repL_cut ra lo hi).le l'))
    · exact h.elim
variable {lo hi : Option Expr} {fl fu : En → M (Option Int)} {p2 : Pos}
theorem de_sl (he : DE X E e f) (hl : DO X E lo fl) (hu : DO X E hi fu) : DE X E (.Subscript e (.Slice lo hi none p2) pos) (eSl f fl fu) :=
  (pe_slice (SlR.or sl_list sl_tupA) he hl hu).imp fun σ H Q ⟨ρ, w, e, ok, re, h⟩ => by
    subst e
    refine ⟨ρ, w, rfl, ok, re, (Fin.bind h).imp fun x w1 l1 ok1 h1 v rv => ?_⟩
    refine ⟨ρ, w1, rfl, ok1, re.le l1, (Fin.bind h1).imp fun lo w2 l2 ok2 h2 => ?_⟩
    refine ⟨ρ, w2, rfl, ok2, re.le (l1.trans l2), (Fin.bind h2).imp fun hi w3 l3 ok3 h3 => ?_⟩
    exact sl_run ok3 ((rv.le l2).le l3) h3
end

/-! ### targets -/
section
variable {X : Cx} {E : XK} {K : PySem.W.Frag} {mg : Str → Option Value} {pos : Pos} {e o : Expr} {es : List Expr} {f fo fi : En → M D} {k : Nat}
def gN (i : Nat) : D → En → M En := fun d ρ => ret (ρ.set i (some d))
theorem dg_name (i : Nat) (C : Ctl X E k) {x : Str} (hi : X.N[i]? = some x := by rfl) (hx : Loc X.env.scope x := by first | exact Or.inl rfl | exact Or.inr rfl) (hf : X.fn x = true ∨ X.env.scope.names.lookup x = some .local := by first | exact .inl rfl | exact .inr rfl | assumption) : DG X E (.Name x pos) (gN i) :=
  (pg_name C.nd hi hx hf).imp fun v σ H Q ⟨d, ρ, w, e, ok, r, re, h⟩ => by
    subst e
    exact h w (Wd.le.refl w) ok rfl _ (re.set i r)
def gNilD : List D → En → M En := fun ds ρ => match ds with | [] => ret ρ | _ => stuck
def gConsD (g : D → En → M En) (u : List D → En → M En) : List D → En → M En := fun ds ρ => match ds with | d :: r => bnd (g d ρ) fun ρ' => u r ρ' | [] => stuck
def gTupD (n : Nat) (u : List D → En → M En) : D → En → M En := fun d ρ s => match d.t? with | some ds => if ds.length = n then u ds ρ s else .no | none => .no
theorem dgs_nil : DGs X E [] gNilD := pgs_nil.imp fun v σ H Q ⟨d, ρ, w, e, ok, r, re, h⟩ => by
  subst e
  cases r with
  | nil => exact ⟨rfl, h w (Wd.le.refl w) ok rfl _ re⟩
  | cons _ _ => exact h.elim
theorem dgs_cons {g : D → En → M En} {u : List D → En → M En} (h1 : DG X E e g) (h2 : DGs X E es u) (hs : (assignEach (e :: es) X.env).map (·.2) = assign e X.env :: (assignEach es X.env).map (·.2) := by rfl) : DGs X E (e :: es) (gConsD g u) :=
  (pgs_cons h1 h2 hs).imp fun v σ H Q ⟨d, ρ, w, e, ok, r, re, h⟩ => by
    subst e
    cases r with
    | nil => exact h.elim
    | cons a b =>
      refine ⟨_, _, rfl, _, ρ, w, rfl, ok, a, re, (Fin.bind h).imp fun ρ' w1 l1 ok1 h1 σ' re' => ?_⟩
      exact ⟨_, ρ', w1, rfl, ok1, b.le l1, re', h1⟩
theorem dg_tup (n : Nat) {kt : Nat} {u : List D → En → M En} (C : Ctl X E k) (h : DGs X E es u) (hn : (assignEach es X.env).length = n := by rfl) (hst : (assignEach es X.env).findIdx? (·.1) = none := by rfl) : DG X E (.Tuple es kt pos) (gTupD n u) :=
  (pg_tup (n := n) C.calm h hn hst).imp fun v σ H Q ⟨d, ρ, w, e, ok, r, re, h⟩ => by
    subst e
    unfold gTupD at h
    split at h
    · rename_i ds hd
      split at h
      · rename_i hl
        obtain ⟨a, xs, rfl, ha, ra⟩ := rep_tup r hd
        exact ⟨a, xs, rfl, SqT.of (ok.fr _ _ ha), by rw [← ra.length]; exact hl, ds, ρ, w, rfl, ok, ra, re, h⟩
      · exact h.elim
    · exact h.elim
/-- cell[i] = d -/
def putL (x i d : D) : M Unit := fun s => match x, i.i? with
  | .loc n, some j => match s[n]? with
    | some (some (.lst ds)) => match ixN ds.length j with
      | some m => .ok () (s.set n (some (.lst (ds.set m d))))
      | none => .no
    | _ => .no
  | _, _ => .no
def gSubD (fo fi : En → M D) : D → En → M En := fun d ρ => bnd (fo ρ) fun x => bnd (fi ρ) fun i => bnd (putL x i d) fun _ => ret ρ
theorem dg_sub (ho : DE X E o fo) (hi : DE X E e fi) (ha : ∀ v, assign (.Subscript o e pos) X.env v = (do
      let ov ← holding [v] (eval o X.env)
      let iv ← holding [v, ov] (eval e X.env)
      standAt pos
      holding [v, ov, iv] (setItem ov iv v)
      release [v, ov, iv] []) := by intro _; rfl) : DG X E (.Subscript o e pos) (gSubD fo fi) :=
  (pg_sub ho hi set_list ha).imp fun v σ H Q ⟨d, ρ, w, e, ok, r, re, h⟩ => by
    subst e
    refine ⟨ρ, w, rfl, ok, re, (Fin.bind h).imp fun x w1 l1 ok1 h1 ov rv => ?_⟩
    refine ⟨ρ, w1, rfl, ok1, re.le l1, (Fin.bind h1).imp fun i w2 l2 ok2 h2 iv ri => ?_⟩
    have h3 := Fin.bind h2
    unfold putL at h3
    split at h3
    · rename_i n j hj
      split at h3
      · rename_i ds hs
        split at h3
        · rename_i m hm
          cases rv with
          | loc e =>
            rename_i a
            have ea : w2.L[n]? = some a := pre_get l2.l e
            obtain ⟨_, xs, hx, rx⟩ := ok2.cell n a _ ea hs
            have rd := (r.le (l1.trans l2))
            obtain ⟨ok3, l3⟩ := ok2.put (c := .lst (ds.set m d)) (o := .lst (xs.set m v)) ea hs fun H' e => ⟨_, e, rx.set m rd⟩
            refine ⟨a, xs, j, m, rfl, rep_int ri hj, hx, by rw [← rx.length]; exact hm, ?_⟩
            have h4 := h3 _ l3 ok3 rfl
            exact h4 _ (Wd.le.refl _) ok3 rfl _ (re.le ((l1.trans l2).trans l3))
        · exact h3.elim
      · exact h3.elim
    · exact h3.elim
end

/-! ### iterators -/
section
variable {X : Cx} {E : XK} {K : PySem.W.Frag} {mg : Str → Option Value} {pos p : Pos} {e e' tg : Expr} {es : List Expr} {f f1 f2 : En → M D} {fa : En → M (List D)} {k : Nat}
theorem itd_list {a : Addr} {xs : List V} {w0 : Wd} {ds : List D} (h : SqL K w0.I a xs) (r : w0.repL K ds xs) : ItD K (Itl K a) w0 ds where
  go := fun w i l ok hi => by
    have hi' : i < xs.length := by rw [← r.length]; exact hi
    exact ⟨xs, xs[i], sq_fr ok (seqL_mono l.i h), List.getElem?_eq_getElem hi'⟩
  stop := fun w i l ok hi => ⟨xs, sq_fr ok (seqL_mono l.i h), by rw [← r.length]; exact hi⟩
  yld := fun w i d x H' l ok hd y => by
    obtain ⟨rfl, y⟩ := y
    obtain ⟨v, hv, rv⟩ := r.get hd
    have e := y xs (sq_fr ok (seqL_mono l.i h))
    rw [hv] at e
    cases e
    exact ⟨w, Wd.le.refl w, ok, rfl, rfl, rv.le0 l⟩
theorem itd_tup {a : Addr} {xs : List V} {w0 : Wd} {ds : List D} (h : w0.I a = some (.tup xs)) (r : w0.repL K ds xs) : ItD K (Itt K a) w0 ds where
  go := fun w i l ok hi => by
    have hi' : i < xs.length := by rw [← r.length]; exact hi
    exact ⟨xs, xs[i], SqT.of (ok.fr _ _ (l.i _ _ h)), List.getElem?_eq_getElem hi'⟩
  stop := fun w i l ok hi => ⟨xs, SqT.of (ok.fr _ _ (l.i _ _ h)), by rw [← r.length]; exact hi⟩
  yld := fun w i d x H' l ok hd y => by
    obtain ⟨rfl, y⟩ := y
    obtain ⟨v, hv, rv⟩ := r.get hd
    have e := y xs (SqT.of (ok.fr _ _ (l.i _ _ h)))
    rw [hv] at e
    cases e
    exact ⟨w, Wd.le.refl w, ok, rfl, rfl, rv.le0 l⟩
/-- items of data (a list given up, the script, a tuple) -/
def itemsD : D → M (List D)
  | .lst ds => ret ds
  | .tup ds => ret ds
  | .fz ds => ret ds
  | _ => stuck
def iSeqD (f : En → M D) : En → M (List D) := fun ρ => bnd (f ρ) itemsD
theorem di_seq (h : DE X E e f) : DI X E tg e (iSeqD f) := by
  have hl : PI X tg e (fun σ H R => iList X.K (tD X.K X.mg E f) σ H R ∨ iTup X.K (tD X.K X.mg E f) σ H R) := ⟨fun pins s σ H R I q => q.elim (fun q => (pi_list h).run pins s σ H R I q) fun q => (pi_tup h).run pins s σ H R I q⟩
  have hm : PI X tg e (fun σ H R => tD X.K X.mg E f σ H fun x H1 => (∃ a, x = .ref a ∧ (∃ xs, SqL X.K H1 a xs) ∧ R (Itl X.K a) H1) ∨ ∃ a, x = .ref a ∧ (∃ xs, SqT X.K H1 a xs) ∧ R (Itt X.K a) H1) := by
    refine ⟨fun pins s σ H R I q => ?_⟩
    refine thn (h.run pins s σ H _ I q) fun v s1 ⟨x, H1, I1, r1, q1⟩ => ?_
    rcases q1 with ⟨a, rfl, ⟨xs, hx⟩, q1⟩ | ⟨a, rfl, ⟨xs, hx⟩, q1⟩
    · exact itl_go I1 r1 hx q1
    · exact itt_go I1 r1 hx q1
  refine hm.imp fun σ H R ⟨ρ, w, e, ok, re, h⟩ => ?_
  subst e
  refine ⟨ρ, w, rfl, ok, re, (Fin.bind h).imp fun x w1 l1 ok1 h1 v rv => ?_⟩
  cases rv with
  | lst e r => exact .inl ⟨_, rfl, ⟨_, SqL.of (ok1.fr _ _ e)⟩, fin_ret ok1 h1 _ (itd_list (SqL.of e) r)⟩
  | fz e r => exact .inl ⟨_, rfl, ⟨_, sq_fr ok1 e⟩, fin_ret ok1 h1 _ (itd_list e r)⟩
  | tup e r => exact .inr ⟨_, rfl, ⟨_, SqT.of (ok1.fr _ _ e)⟩, fin_ret ok1 h1 _ (itd_tup e r)⟩
  | bl b => exact h1.elim
  | int b => exact h1.elim
  | str b => exact h1.elim
  | non => exact h1.elim
  | gl e => exact h1.elim
  | loc e => exact h1.elim
where
  itl_go {pins : List (Addr × Obj)} {σ : L2.St} {H1 : Hp} {s1 : Shared} {v : Value} {a : Addr} {xs : List V} {R : It → Hp → Prop} (I1 : Inv X pins σ H1 s1) (r1 : RelV (.ref a) v) (hq : SqL X.K H1 a xs) (q : R (Itl X.K a) H1) :
      wpAny (model X.prog X.w) X.A (pyIter v) (PIE X pins σ tg R) X.xe s1 := by
    cases r1
    obtain ⟨its, rv, p, hz⟩ := I1.list hq
    refine wpAny_pyIter_list p.isList ?_
    exact ⟨s1.heap.objs.size, [s1.heap.objs.size], _, _, H1, rfl, I1.kept (t' := s1.toks) fun b o e => Heap.get?_push_of_some _ e, turn_list a _, ⟨_, Heap.get?_push_size _ rfl, rfl, rfl⟩, fun b hb => (by
      obtain rfl : b = s1.heap.objs.size := by simpa using hb
      exact I1.fpOk (Nat.le_refl _) (I1.hok.fresh (Nat.le_refl _))), q⟩
  itt_go {pins : List (Addr × Obj)} {σ : L2.St} {H1 : Hp} {s1 : Shared} {v : Value} {a : Addr} {xs : List V} {R : It → Hp → Prop} (I1 : Inv X pins σ H1 s1) (r1 : RelV (.ref a) v) (hq : SqT X.K H1 a xs) (q : R (Itt X.K a) H1) :
      wpAny (model X.prog X.w) X.A (pyIter v) (PIE X pins σ tg R) X.xe s1 := by
    cases r1
    obtain ⟨its, rv, p, hz⟩ := I1.tuple hq
    refine wpAny_pyIter_tuple (show s1.heap.IsTuple a its.toArray from p) ?_
    exact ⟨s1.heap.objs.size, [s1.heap.objs.size], _, _, H1, rfl, I1.kept (t' := s1.toks) fun b o e => Heap.get?_push_of_some _ e, turn_tuple a _, ⟨_, Heap.get?_push_size _ rfl, rfl, rfl⟩, fun b hb => (by
      obtain rfl : b = s1.heap.objs.size := by simpa using hb
      exact I1.fpOk (Nat.le_refl _) (I1.hok.fresh (Nat.le_refl _))), q⟩
/-! ranges -/
def rgD (lo : Int) (n : Nat) : List D := (List.range n).map fun i => D.int (lo + (i : Nat))
theorem rgD_len (lo : Int) (n : Nat) : (rgD lo n).length = n := by unfold rgD; rw [List.length_map, List.length_range]
theorem rgD_at {lo : Int} {n i : Nat} {d : D} (h : (rgD lo n)[i]? = some d) : d = .int (lo + (i : Nat)) := by
  unfold rgD at h
  rw [List.getElem?_map] at h
  cases q : (List.range n)[i]? with
  | none => rw [q] at h; cases h
  | some j =>
    rw [q] at h
    have : j = i := by
      rw [List.getElem?_eq_some_iff] at q
      obtain ⟨h1, h2⟩ := q
      simpa using h2.symm
    subst this
    exact (Option.some.inj h).symm
theorem itd_range {lo : Int} {n : Nat} {w0 : Wd} : ItD K (Itr lo n) w0 (rgD lo n) where
  go := fun w i l ok hi => by rw [rgD_len] at hi; exact hi
  stop := fun w i l ok hi => by rw [rgD_len] at hi; exact hi
  yld := fun w i d x H' l ok hd y => by
    obtain ⟨rfl, rfl⟩ := y
    rw [rgD_at hd]
    exact ⟨w, Wd.le.refl w, ok, rfl, rfl, .int _⟩
def smI (i : Int) : Bool := decide (-4611686018427387904 ≤ i ∧ i < 4611686018427387904)
theorem smI_b {i : Int} (h : smI i = true) : -(2 ^ 62) ≤ i ∧ i < 2 ^ 62 := by
  have h' : -4611686018427387904 ≤ i ∧ i < 4611686018427387904 := of_decide_eq_true h
  have e : (2 : Int) ^ 62 = 4611686018427387904 := by decide
  rw [e]; exact h'
/-- range(..)'s numbers -/
def rangeD1 (ds : List D) : M (List D) := fun s => match ds with
  | [a] => match a.i? with
    | some j => if smI j = true then .ok (rgD 0 j.toNat) s else .no
    | none => .no
  | _ => .no
def rangeD (ds : List D) : M (List D) := fun s => match ds with
  | [a, b] => match a.i?, b.i? with
    | some i, some j => if (smI i && smI j) = true then .ok (rgD i (j - i).toNat) s else .no
    | _, _ => .no
  | _ => .no
def iRangeD1 (fa : En → M (List D)) : En → M (List D) := fun ρ => bnd (fa ρ) rangeD1
def iRangeD (fa : En → M (List D)) : En → M (List D) := fun ρ => bnd (fa ρ) rangeD
theorem di_range1 (hm : X.mg "range" = none) (ha : DA X E [e] fa) (hg : Gl X "range" := by rfl) (hs : starEach [e] X.env = [(false, eval e X.env)] := by rfl) : DI X E tg (.Call (.Name "range" p) [e] [] pos) (iRangeD1 fa) :=
  (pi_range1 hg hm ha hs).imp fun σ H R ⟨ρ, w, e, ok, re, h⟩ => by
    subst e
    refine ⟨ρ, w, rfl, ok, re, (Fin.bind h).imp fun ds w1 l1 ok1 h1 vs rv => ?_⟩
    unfold rangeD1 at h1
    split at h1
    · rename_i a
      split at h1
      · rename_i j hj
        split at h1
        · rename_i hs
          cases rv with
          | cons r rr =>
            cases rr
            obtain ⟨b1, b2⟩ := smI_b hs
            exact ⟨j, by rw [rep_int r hj], b1, b2, h1 w1 (Wd.le.refl _) ok1 rfl _ itd_range⟩
        · exact h1.elim
      · exact h1.elim
    · exact h1.elim
theorem di_range2 (hm : X.mg "range" = none) (ha : DA X E [e, e'] fa) (hg : Gl X "range" := by rfl) (hs : starEach [e, e'] X.env = [(false, eval e X.env), (false, eval e' X.env)] := by rfl) (hs2 : starEach [e'] X.env = [(false, eval e' X.env)] := by rfl) : DI X E tg (.Call (.Name "range" p) [e, e'] [] pos) (iRangeD fa) :=
  (pi_range2 hg hm ha hs hs2).imp fun σ H R ⟨ρ, w, e, ok, re, h⟩ => by
    subst e
    refine ⟨ρ, w, rfl, ok, re, (Fin.bind h).imp fun ds w1 l1 ok1 h1 vs rv => ?_⟩
    unfold rangeD at h1
    split at h1
    · rename_i a b
      split at h1
      · rename_i i j hi hj
        split at h1
        · rename_i hs
          rw [Bool.and_eq_true] at hs
          cases rv with
          | cons r rr =>
            cases rr with
            | cons r2 rr =>
              cases rr
              obtain ⟨b1, b2⟩ := smI_b hs.1
              obtain ⟨b3, b4⟩ := smI_b hs.2
              exact ⟨i, j, by rw [rep_int r hi, rep_int r2 hj], ⟨b1, b2, b3, b4⟩, h1 w1 (Wd.le.refl _) ok1 rfl _ itd_range⟩
        · exact h1.elim
      · exact h1.elim
    · exact h1.elim
/-! enumerate of a list, zip of two lists or two tuples -/
def enumDs (ds : List D) : List D := (List.range ds.length).zipWith (fun (i : Nat) d => D.tup [.int (i : Nat), d]) ds
def listD : D → M (List D)
  | .lst ds => ret ds
  | .fz ds => ret ds
  | _ => stuck
def iEnumD (f : En → M D) : En → M (List D) := fun ρ => bnd (f ρ) fun x => bnd (listD x) fun ds => ret (enumDs ds)
theorem enumDs_at {ds : List D} {i : Nat} {d : D} (h : (enumDs ds)[i]? = some d) : ∃ x, ds[i]? = some x ∧ d = .tup [.int (i : Nat), x] := by
  unfold enumDs at h
  rw [List.getElem?_zipWith] at h
  cases q : ds[i]? with
  | none => rw [q] at h; cases q2 : (List.range ds.length)[i]? <;> (rw [q2] at h; cases h)
  | some x =>
    have hl : i < ds.length := (List.getElem?_eq_some_iff.mp q).1
    have q2 : (List.range ds.length)[i]? = some i := by rw [List.getElem?_eq_getElem (by rw [List.length_range]; exact hl), List.getElem_range]
    rw [q, q2] at h
    exact ⟨x, rfl, (Option.some.inj h).symm⟩
theorem enumDs_len (ds : List D) : (enumDs ds).length = ds.length := by
  unfold enumDs
  rw [List.length_zipWith, List.length_range, Nat.min_self]
theorem itd_enum {a : Addr} {xs : List V} {w0 : Wd} {ds : List D} (h : SqL K w0.I a xs) (r : w0.repL K ds xs) : ItD K (Ite K a) w0 (enumDs ds) where
  go := fun w i l ok hi => by
    rw [enumDs_len] at hi
    have hi' : i < xs.length := by rw [← r.length]; exact hi
    exact ⟨xs, xs[i], sq_fr ok (seqL_mono l.i h), List.getElem?_eq_getElem hi'⟩
  stop := fun w i l ok hi => ⟨xs, sq_fr ok (seqL_mono l.i h), by rw [← r.length]; rw [enumDs_len] at hi; exact hi⟩
  yld := fun w i d x H' l ok hd y => by
    obtain ⟨z, hz, rfl⟩ := enumDs_at hd
    obtain ⟨T, x', rfl, hT, rfl, y⟩ := y
    obtain ⟨v, hv, rv⟩ := r.get hz
    have e := y xs (sq_fr ok (seqL_mono l.i h))
    rw [hv] at e
    obtain rfl : v = x' := Option.some.inj e
    obtain ⟨ok', l'⟩ := ok.newI hT (.tup [.int (i : Nat), v])
    exact ⟨_, l', ok', rfl, rfl, .tup upd_same (.cons (.int _) (.cons ((rv.le0 l).le l') .nil))⟩
theorem di_enum {kk : Nat} {tpos : Pos} (hm : X.mg "enumerate" = none) (ha : DE X E e f) (hg : Gl X "enumerate" := by rfl) (hs : starEach [e] X.env = [(false, eval e X.env)] := by rfl) : DI X E (.Tuple es kk tpos) (.Call (.Name "enumerate" p) [e] [] pos) (iEnumD f) :=
  (pi_enum hg hm (pa_cons ha pa_nil hs) hs).imp fun σ H R ⟨ρ, w, e, ok, re, h⟩ => by
    subst e
    refine ⟨ρ, w, rfl, ok, re, (Fin.bind h).imp fun x w1 l1 ok1 h1 v rv => ?_⟩
    cases rv with
    | lst e r => exact ⟨_, _, rfl, SqL.of (ok1.fr _ _ e), fin_ret ok1 h1 _ (itd_enum (SqL.of e) r)⟩
    | fz e r => exact ⟨_, _, rfl, sq_fr ok1 e, fin_ret ok1 h1 _ (itd_enum e r)⟩
    | tup e r => exact h1.elim
    | bl b => exact h1.elim
    | int b => exact h1.elim
    | str b => exact h1.elim
    | non => exact h1.elim
    | gl e => exact h1.elim
    | loc e => exact h1.elim
def zipDs (xs ys : List D) : List D := xs.zipWith (fun x y => D.tup [x, y]) ys
def zip2D (x y : D) : M (List D) := fun s => match x, y with
  | .lst xs, .lst ys => .ok (zipDs xs ys) s
  | .tup xs, .tup ys => .ok (zipDs xs ys) s
  | _, _ => .no
def iZipD (f1 f2 : En → M D) : En → M (List D) := fun ρ => bnd (f1 ρ) fun x => bnd (f2 ρ) fun y => zip2D x y
theorem zipDs_at {xs ys : List D} {i : Nat} {d : D} (h : (zipDs xs ys)[i]? = some d) : ∃ x y, xs[i]? = some x ∧ ys[i]? = some y ∧ d = .tup [x, y] := by
  unfold zipDs at h
  rw [List.getElem?_zipWith] at h
  cases q : xs[i]? with
  | none => rw [q] at h; cases h
  | some x =>
    cases q2 : ys[i]? with
    | none => rw [q, q2] at h; cases h
    | some y =>
      rw [q, q2] at h
      exact ⟨x, y, rfl, rfl, (Option.some.inj h).symm⟩
theorem zipDs_len (xs ys : List D) : (zipDs xs ys).length = min xs.length ys.length := by unfold zipDs; rw [List.length_zipWith]
theorem itd_zipL {a b : Addr} {xs ys : List V} {w0 : Wd} {ds es : List D} (ha : w0.I a = some (.lst xs)) (ra : w0.repL K ds xs) (hb : w0.I b = some (.lst ys)) (rb : w0.repL K es ys) : ItD K (Itz K a b) w0 (zipDs ds es) where
  go := fun w i l ok hi => by
    rw [zipDs_len] at hi
    have h1 : i < xs.length := by rw [← ra.length]; omega
    have h2 : i < ys.length := by rw [← rb.length]; omega
    exact ⟨xs, ys, xs[i], ys[i], SqL.of (ok.fr _ _ (l.i _ _ ha)), SqL.of (ok.fr _ _ (l.i _ _ hb)), List.getElem?_eq_getElem h1, List.getElem?_eq_getElem h2⟩
  stop := fun w i l ok hi => by
    rw [zipDs_len, ra.length, rb.length] at hi
    exact ⟨xs, ys, SqL.of (ok.fr _ _ (l.i _ _ ha)), SqL.of (ok.fr _ _ (l.i _ _ hb)), by omega⟩
  yld := fun w i d x H' l ok hd y => by
    obtain ⟨z1, z2, hz1, hz2, rfl⟩ := zipDs_at hd
    obtain ⟨T, x', y', rfl, hT, rfl, f1, f2⟩ := y
    obtain ⟨v, hv, rv⟩ := ra.get hz1
    obtain ⟨u, hu, ru⟩ := rb.get hz2
    have e := f1 xs (SqL.of (ok.fr _ _ (l.i _ _ ha)))
    rw [hv] at e
    obtain rfl : v = x' := Option.some.inj e
    have e := f2 ys (SqL.of (ok.fr _ _ (l.i _ _ hb)))
    rw [hu] at e
    obtain rfl : u = y' := Option.some.inj e
    obtain ⟨ok', l'⟩ := ok.newI hT (.tup [v, u])
    exact ⟨_, l', ok', rfl, rfl, .tup upd_same (.cons ((rv.le0 l).le l') (.cons ((ru.le0 l).le l') .nil))⟩
theorem itd_zipT {a b : Addr} {xs ys : List V} {w0 : Wd} {ds es : List D} (ha : w0.I a = some (.tup xs)) (ra : w0.repL K ds xs) (hb : w0.I b = some (.tup ys)) (rb : w0.repL K es ys) : ItD K (ItzT K a b) w0 (zipDs ds es) where
  go := fun w i l ok hi => by
    rw [zipDs_len] at hi
    have h1 : i < xs.length := by rw [← ra.length]; omega
    have h2 : i < ys.length := by rw [← rb.length]; omega
    exact ⟨xs, ys, xs[i], ys[i], SqT.of (ok.fr _ _ (l.i _ _ ha)), SqT.of (ok.fr _ _ (l.i _ _ hb)), List.getElem?_eq_getElem h1, List.getElem?_eq_getElem h2⟩
  stop := fun w i l ok hi => by
    rw [zipDs_len, ra.length, rb.length] at hi
    exact ⟨xs, ys, SqT.of (ok.fr _ _ (l.i _ _ ha)), SqT.of (ok.fr _ _ (l.i _ _ hb)), by omega⟩
  yld := fun w i d x H' l ok hd y => by
    obtain ⟨z1, z2, hz1, hz2, rfl⟩ := zipDs_at hd
    obtain ⟨T, x', y', rfl, hT, rfl, f1, f2⟩ := y
    obtain ⟨v, hv, rv⟩ := ra.get hz1
    obtain ⟨u, hu, ru⟩ := rb.get hz2
    have e := f1 xs (SqT.of (ok.fr _ _ (l.i _ _ ha)))
    rw [hv] at e
    obtain rfl : v = x' := Option.some.inj e
    have e := f2 ys (SqT.of (ok.fr _ _ (l.i _ _ hb)))
    rw [hu] at e
    obtain rfl : u = y' := Option.some.inj e
    obtain ⟨ok', l'⟩ := ok.newI hT (.tup [v, u])
    exact ⟨_, l', ok', rfl, rfl, .tup upd_same (.cons ((rv.le0 l).le l') (.cons ((ru.le0 l).le l') .nil))⟩
theorem di_zip {kk : Nat} {tpos : Pos} (hm : X.mg "zip" = none) (ha : DE X E e f1) (hb : DE X E e' f2) (hg : Gl X "zip" := by rfl) (hs : starEach [e, e'] X.env = (false, eval e X.env) :: starEach [e'] X.env := by rfl)
    (hs2 : starEach [e'] X.env = (false, eval e' X.env) :: starEach [] X.env := by rfl) (hpl : (backTo pos (starEach [e'] X.env)).any (·.1) = false := by rfl) : DI X E (.Tuple es kk tpos) (.Call (.Name "zip" p) [e, e'] [] pos) (iZipD f1 f2) :=
  (pi_zipA hg hm (pa_cons ha (pa_cons hb pa_nil hs2) hs) hs hpl).imp fun σ H R ⟨ρ, w, e, ok, re, h⟩ => by
    subst e
    refine ⟨ρ, w, rfl, ok, re, (Fin.bind h).imp fun x w1 l1 ok1 h1 v rv => ?_⟩
    refine ⟨ρ, w1, rfl, ok1, re.le l1, (Fin.bind h1).imp fun y w2 l2 ok2 h2 u ru => ?_⟩
    have rv' := rv.le l2
    unfold zip2D at h2
    split at h2
    · cases rv' with
      | lst ea ra =>
        cases ru with
        | lst eb rb =>
          exact ⟨_, _, _, _, rfl, .inl ⟨SqL.of (ok2.fr _ _ ea), SqL.of (ok2.fr _ _ eb), h2 w2 (Wd.le.refl _) ok2 rfl _ (itd_zipL ea ra eb rb)⟩⟩
    · cases rv' with
      | tup ea ra =>
        cases ru with
        | tup eb rb =>
          exact ⟨_, _, _, _, rfl, .inr ⟨SqT.of (ok2.fr _ _ ea), SqT.of (ok2.fr _ _ eb), h2 w2 (Wd.le.refl _) ok2 rfl _ (itd_zipT ea ra eb rb)⟩⟩
    · exact h2.elim
end
end DL

namespace DL
open PySem PySem.Spec PyProof.Rows L2

/-! ### statements -/
def fBnd (m : M Fl) (k : En → M Fl) : M Fl := bnd m fun fl => match fl with
  | .nx ρ => k ρ
  | .rt d => ret (.rt d)
  | .bk ρ => ret (.bk ρ)
  | .ct ρ => ret (.ct ρ)
def sNx : En → M Fl := fun ρ => ret (.nx ρ)
def sSeq (f g : En → M Fl) : En → M Fl := fun ρ => fBnd (f ρ) g
def sAsg (f : En → M D) (g : D → En → M En) : En → M Fl := fun ρ => bnd (f ρ) fun d => bnd (g d ρ) fun ρ' => ret (.nx ρ')
def sRet (f : En → M D) : En → M Fl := fun ρ => bnd (f ρ) fun d => ret (.rt d)
def sRetN : En → M Fl := fun _ => ret (.rt .non)
def sIf (t : En → M Bool) (f g : En → M Fl) : En → M Fl := fun ρ => bnd (t ρ) fun c => br c (f ρ) (g ρ)
def sExp (f : En → M D) : En → M Fl := fun ρ => bnd (f ρ) fun _ => ret (.nx ρ)
def sStuck : En → M Fl := fun _ => stuck
def sBrk : En → M Fl := fun ρ => ret (.bk ρ)
def sCnt : En → M Fl := fun ρ => ret (.ct ρ)
/-- a, b = x, y -/
def sPar (i j : Nat) (f1 f2 : En → M D) : En → M Fl := fun ρ => bnd (f1 ρ) fun x => bnd (f2 ρ) fun y => ret (.nx ((ρ.set i (some x)).set j (some y)))
/-- a loop over items -/
def forL (body : D → En → M Fl) : List D → En → M Fl
  | [], ρ => ret (.nx ρ)
  | d :: ds, ρ => bnd (body d ρ) fun fl => match fl with
    | .nx ρ' => forL body ds ρ'
    | .ct ρ' => forL body ds ρ'
    | .rt d => ret (.rt d)
    | .bk ρ' => ret (.nx ρ')
def sFor (fi : En → M (List D)) (g : D → En → M En) (fb : En → M Fl) : En → M Fl := fun ρ => bnd (fi ρ) fun ds => forL (fun d ρ => bnd (g d ρ) fb) ds ρ
/-- while, so many turns at most -/
def whileF (c : En → M Bool) (b : En → M Fl) : Nat → En → M Fl
  | 0, _ => stuck
  | n + 1, ρ => bnd (c ρ) fun k => br k (bnd (b ρ) fun fl => match fl with
      | .nx ρ' => whileF c b n ρ'
      | .ct ρ' => whileF c b n ρ'
      | .rt d => ret (.rt d)
      | .bk ρ' => ret (.nx ρ')) (ret (.nx ρ))
def sWhile (fuel : En → Nat) (c : En → M Bool) (b : En → M Fl) : En → M Fl := fun ρ => whileF c b (fuel ρ) ρ
section
variable {X : Cx} {E : XK} {K : PySem.W.Frag} {mg : Str → Option Value} {pos : Pos} {e e' tg : Expr} {f f1 f2 : En → M D} {t : En → M Bool} {g : D → En → M En} {st : Stmt} {sts rest : List Stmt} {s1 s2 : En → M Fl} {k : Nat}
theorem dss_nil : DSs X E [] sNx := pss_nil.imp fun Z σ H ⟨ρ, w, e, ok, re, h⟩ => by
  subst e
  exact fin_ret ok h σ re
theorem EndsQ.nx {Z : Ends} {N : L2.St → Hp → Prop} {fl : Fl} {w : Wd} (h : EndsQ K Z fl w) (hn : ∀ ρ, fl = .nx ρ → ∀ σ, RepE K w ρ σ → N σ w.H) : EndsQ K { Z with nx := N } fl w := by
  cases fl with
  | nx ρ => exact hn ρ rfl
  | rt d => exact h
  | bk ρ => exact h
  | ct ρ => exact h
theorem dss_cons (h1 : DS X E st s1) (h2 : DSs X E rest s2) : DSs X E (st :: rest) (sSeq s1 s2) := (pss_cons h1 h2).imp fun Z σ H ⟨ρ, w, e, ok, re, h⟩ => by
  subst e
  refine ⟨ρ, w, rfl, ok, re, (Fin.bind h).imp fun fl w1 l1 ok1 h1 => ?_⟩
  cases fl with
  | nx ρ' => exact fun σ' re' => ⟨ρ', w1, rfl, ok1, re', h1⟩
  | rt d => exact fin_ret (Q := EndsQ X.K Z) ok1 h1
  | bk ρ' => exact fin_ret (Q := EndsQ X.K Z) ok1 h1
  | ct ρ' => exact fin_ret (Q := EndsQ X.K Z) ok1 h1
theorem dss_one (h1 : DS X E st s1) : DSs X E [st] s1 := (pss_one h1)
theorem ds_pass : DS X E (.Pass pos) sNx := ps_pass.imp fun Z σ H ⟨ρ, w, e, ok, re, h⟩ => by
  subst e
  exact fin_ret ok h σ re
theorem ds_brk : DS X E (.Break pos) sBrk := ps_break.imp fun Z σ H ⟨ρ, w, e, ok, re, h⟩ => by
  subst e
  exact fin_ret ok h σ re
theorem ds_cnt : DS X E (.Continue pos) sCnt := ps_continue.imp fun Z σ H ⟨ρ, w, e, ok, re, h⟩ => by
  subst e
  exact fin_ret ok h σ re
/-- a statement that is never come to -/
theorem ds_never : DS X E st sStuck := ps_never.imp fun Z σ H ⟨ρ, w, e, ok, re, h⟩ => h
theorem ds_asg (he : DE X E e f) (hg : DG X E tg g) (hs : swapsWithSole [tg] e pos.line X.env = pure false := by rfl) (hw : swappedStores [tg] e X.env = pure none := by rfl)
    (h1 : (assignEach [tg] X.env).map (·.2) = [assign tg X.env] := by rfl) : DS X E (.Assign [tg] e pos) (sAsg f g) := (ps_asg he hg hs hw h1).imp fun Z σ H ⟨ρ, w, e, ok, re, h⟩ => by
  subst e
  refine ⟨ρ, w, rfl, ok, re, (Fin.bind h).imp fun d w1 l1 ok1 h1 v rv => ?_⟩
  refine ⟨d, ρ, w1, rfl, ok1, rv, re.le l1, (Fin.bind h1).imp fun ρ' w2 l2 ok2 h2 σ' re' => ?_⟩
  exact fin_ret (Q := EndsQ X.K Z) ok2 h2 σ' re'
theorem ds_set (i : Nat) (C : Ctl X E k) {x : Str} {pos' : Pos} (he : DE X E e f) (hi : X.N[i]? = some x := by rfl) (hx : Loc X.env.scope x := by first | exact Or.inl rfl | exact Or.inr rfl) (hs : swapsWith e (some (.Name x pos')) pos.line X.env = pure false := by rfl)
    (hf : X.fn x = true ∨ X.env.scope.names.lookup x = some .local := by first | exact .inl rfl | exact .inr rfl | assumption) : DS X E (.Assign [.Name x pos'] e pos) (sAsg f (gN i)) := (ps_set C.nd hi hx he hs hf).imp fun Z σ H ⟨ρ, w, e, ok, re, h⟩ => by
  subst e
  refine ⟨ρ, w, rfl, ok, re, (Fin.bind h).imp fun d w1 l1 ok1 h1 v rv => ?_⟩
  exact fin_ret (Q := EndsQ X.K Z) ok1 h1 _ ((re.le l1).set i rv)
theorem ds_par (i j : Nat) (C : Ctl X E k) {x y : Str} {px py pt pt2 : Pos} {kt k2 : Nat} (ha : DE X E e f1) (hb : DE X E e' f2) (hi : X.N[i]? = some x := by rfl) (hj : X.N[j]? = some y := by rfl) (hij : i ≠ j := by decide)
    (hx : X.env.scope.names.lookup x = some .local := by rfl) (hy : X.env.scope.names.lookup y = some .local := by rfl)
    (n1 : starEach [e, e'] X.env = (false, eval e X.env) :: starEach [e'] X.env := by rfl) (n2 : starEach [e'] X.env = (false, eval e' X.env) :: starEach [] X.env := by rfl)
    (hw : swappedStores [.Tuple [.Name x px, .Name y py] kt pt] (.Tuple [e, e'] k2 pt2) X.env = pure (some [x, y]) := by rfl)
    (hs : swapsWithSole [.Tuple [.Name x px, .Name y py] kt pt] (.Tuple [e, e'] k2 pt2) pos.line X.env = pure false := by rfl) :
    DS X E (.Assign [.Tuple [.Name x px, .Name y py] kt pt] (.Tuple [e, e'] k2 pt2) pos) (sPar i j f1 f2) := (ps_par C.calm C.nd hi hj hij hx hy (pa_cons ha (pa_cons hb pa_nil n2) n1) hw hs).imp fun Z σ H ⟨ρ, w, e, ok, re, h⟩ => by
  subst e
  refine ⟨ρ, w, rfl, ok, re, (Fin.bind h).imp fun x w1 l1 ok1 h1 v rv => ?_⟩
  refine ⟨ρ, w1, rfl, ok1, re.le l1, (Fin.bind h1).imp fun y w2 l2 ok2 h2 u ru => ?_⟩
  exact ⟨v, u, rfl, fin_ret (Q := EndsQ X.K Z) ok2 h2 _ (((re.le (l1.trans l2)).set i (rv.le l2)).set j ru)⟩
theorem ds_ret (he : DE X E e f) : DS X E (.Return (some e) pos) (sRet f) := (ps_ret he).imp fun Z σ H ⟨ρ, w, e, ok, re, h⟩ => by
  subst e
  exact ⟨ρ, w, rfl, ok, re, (Fin.bind h).imp fun d w1 l1 ok1 h1 v rv => fin_ret (Q := EndsQ X.K Z) ok1 h1 v rv⟩
theorem ds_retN : DS X E (.Return none pos) sRetN := ps_retN.imp fun Z σ H ⟨ρ, w, e, ok, re, h⟩ => by
  subst e
  exact fin_ret (Q := EndsQ X.K Z) ok h .non .non
theorem ds_exp (he : DE X E e f) (hs : swapsWith e none pos.line X.env = pure false := by rfl) : DS X E (.Expr e pos) (sExp f) := (ps_expr he hs).imp fun Z σ H ⟨ρ, w, e, ok, re, h⟩ => by
  subst e
  exact ⟨ρ, w, rfl, ok, re, (Fin.bind h).imp fun d w1 l1 ok1 h1 v rv => fin_ret (Q := EndsQ X.K Z) ok1 h1 σ (re.le l1)⟩
theorem ds_if {a b : List Stmt} {c : Expr} (hc : DT X E c t) (ha : DSs X E a s1) (hb : DSs X E b s2) : DS X E (.If c a b pos) (sIf t s1 s2) := (ps_if hc ha hb).imp fun Z σ H ⟨ρ, w, e, ok, re, h⟩ => by
  subst e
  refine ⟨ρ, w, rfl, ok, re, (Fin.bind h).imp fun c w1 l1 ok1 h1 => ?_⟩
  cases c with
  | true => exact ⟨ρ, w1, rfl, ok1, re.le l1, h1⟩
  | false => exact ⟨ρ, w1, rfl, ok1, re.le l1, h1⟩
theorem ds_for {body : List Stmt} {iter : Expr} {fi : En → M (List D)} (C : Ctl X E k) (hi : DI X E tg iter fi) (hg : DG X E tg g) (hb : DSs X E body s1)
    (hs : ∀ x, foldedSetIterable iter X.env x = pure x := by intro _; rfl) : DS X E (.For tg iter body [] pos) (sFor fi g s1) := (ps_for C.own C.calm hi hg hb hs).imp fun Z σ H ⟨ρ, w, e, ok, re, h⟩ => by
  subst e
  refine ⟨ρ, w, rfl, ok, re, (Fin.bind h).imp fun ds w1 l1 ok1 h1 J hJ => ?_⟩
  refine ⟨fun i m σ H => m = ds.length - i ∧ i ≤ ds.length ∧ ∃ (ρ : En) (w : Wd), w.H = H ∧ w1.le w ∧ w.Ok X.K ∧ RepE X.K w ρ σ ∧ Fin X.K X.mg E w (forL (fun d ρ => bnd (g d ρ) s1) (ds.drop i) ρ w.s) (EndsQ X.K Z),
    ⟨ds.length, rfl, Nat.zero_le _, ρ, w1, rfl, Wd.le.refl _, ok1, re.le l1, h1⟩, ?_⟩
  rintro i m σ2 H2 ⟨rfl, hle, ρ2, w2, rfl, l2, ok2, re2, h2⟩
  by_cases hlt : i < ds.length
  · have hd : ds[i]? = some ds[i] := List.getElem?_eq_getElem hlt
    rw [List.drop_eq_getElem_cons hlt] at h2
    refine .inr ⟨hJ.go w2 i l2.le0 ok2 hlt, fun σ' H' => ∃ (ρ : En) (w : Wd), w.H = H' ∧ w1.le w ∧ w.Ok X.K ∧ RepE X.K w ρ σ' ∧ Fin X.K X.mg E w (forL (fun d ρ => bnd (g d ρ) s1) (ds.drop (i + 1)) ρ w.s) (EndsQ X.K Z),
      fun σ' H' p' => ⟨ds.length - (i + 1), by omega, rfl, hlt, p'⟩, fun x H' y => ?_⟩
    obtain ⟨w3, l3, ok3, es, eh, r3⟩ := hJ.yld w2 i _ x H' l2.le0 ok2 hd y
    subst eh
    have h3 : Fin X.K X.mg E w3 (forL (fun d ρ => bnd (g d ρ) s1) (ds[i] :: ds.drop (i + 1)) ρ2 w3.s) (EndsQ X.K Z) := by
      rw [es]; exact h2.up l3
    have h4 := Fin.bind h3
    refine ⟨ds[i], ρ2, w3, rfl, ok3, r3, re2.le l3, (Fin.bind h4).imp fun ρ4 w4 l4 ok4 h5 σ4 re4 => ?_⟩
    refine ⟨ρ4, w4, rfl, ok4, re4, h5.imp fun fl w5 l5 ok5 h6 => ?_⟩
    have l05 : w1.le w5 := ((l2.trans l3).trans l4).trans l5
    cases fl with
    | nx ρ5 => exact fun σ5 re5 => ⟨ρ5, w5, rfl, l05, ok5, re5, h6⟩
    | ct ρ5 => exact fun σ5 re5 => ⟨ρ5, w5, rfl, l05, ok5, re5, h6⟩
    | rt d => exact fin_ret (Q := EndsQ X.K Z) ok5 h6
    | bk ρ5 => exact fin_ret (Q := EndsQ X.K Z) ok5 h6
  · have hi' : i = ds.length := by omega
    subst hi'
    rw [List.drop_length] at h2
    exact .inl ⟨hJ.stop w2 _ l2.le0 ok2 (Nat.le_refl _), fin_ret (Q := EndsQ X.K Z) ok2 h2 σ2 re2⟩
theorem ds_while (fuel : En → Nat) {body : List Stmt} {c : Expr} (C : Ctl X E k) (hc : DT X E c t) (hb : DSs X E body s1) : DS X E (.While c body [] pos) (sWhile fuel t s1) := (ps_while C.own hc hb).imp fun Z σ H ⟨ρ, w, e, ok, re, h⟩ => by
  subst e
  refine ⟨fun m σ H => ∃ (ρ : En) (w : Wd), w.H = H ∧ w.Ok X.K ∧ RepE X.K w ρ σ ∧ Fin X.K X.mg E w (whileF t s1 m ρ w.s) (EndsQ X.K Z), ⟨fuel ρ, ρ, w, rfl, ok, re, h⟩, ?_⟩
  rintro m σ2 H2 ⟨ρ2, w2, rfl, ok2, re2, h2⟩
  cases m with
  | zero => exact h2.elim
  | succ n =>
    refine ⟨ρ2, w2, rfl, ok2, re2, (Fin.bind h2).imp fun b w3 l3 ok3 h3 => ?_⟩
    cases b with
    | false => exact fin_ret (Q := EndsQ X.K Z) ok3 h3 σ2 (re2.le l3)
    | true =>
      refine ⟨fun σ' H' => ∃ (ρ : En) (w : Wd), w.H = H' ∧ w.Ok X.K ∧ RepE X.K w ρ σ' ∧ Fin X.K X.mg E w (whileF t s1 n ρ w.s) (EndsQ X.K Z), fun σ' H' p => ⟨n, Nat.lt_succ_self n, p⟩, ?_⟩
      refine ⟨ρ2, w3, rfl, ok3, re2.le l3, (Fin.bind h3).imp fun fl w5 l5 ok5 h6 => ?_⟩
      cases fl with
      | nx ρ5 => exact fun σ5 re5 => ⟨ρ5, w5, rfl, ok5, re5, h6⟩
      | ct ρ5 => exact fun σ5 re5 => ⟨ρ5, w5, rfl, ok5, re5, h6⟩
      | rt d => exact fin_ret (Q := EndsQ X.K Z) ok5 h6
      | bk ρ5 => exact fin_ret (Q := EndsQ X.K Z) ok5 h6
end

/-! ### comprehensions -/
def noEr {α : Type} (m : M α) : M α := fun s => match m s with
  | .er _ _ => .no
  | r => r
def lcL (body : D → M (Option D)) : List D → M (List D)
  | [] => ret []
  | d :: ds => bnd (body d) fun o => bnd (lcL body ds) fun ys => ret (match o with | some y => y :: ys | none => ys)
def tYesD : En → M Bool := fun _ => ret true
def lcB (vs : List Nat) (g : D → En → M En) (t : En → M Bool) (f : En → M D) (ρ : En) (d : D) : M (Option D) := noEr (bnd (g d (wipeD ρ vs)) fun ρ' => bnd (t ρ') fun b => br b (bnd (f ρ') fun y => ret (some y)) (ret none))
def eLc (vs : List Nat) (fi : En → M (List D)) (g : D → En → M En) (t : En → M Bool) (f : En → M D) : En → M D := fun ρ => bnd (fi ρ) fun ds => if szOk ds.length = true then bnd (lcL (lcB vs g t f ρ) ds) fun ys => ret (.lst ys) else stuck

/-- the names of a clause's target -/
inductive Tg where
  | nm (i : Nat) | tp (is : List Nat)
def gNs : List Nat → TGs
  | [] => gNil
  | i :: is => gCons (gName i) (gNs is)
def gNsD : List Nat → List D → En → M En
  | [], [], ρ => ret ρ
  | i :: is, d :: ds, ρ => gNsD is ds (ρ.set i (some d))
  | _, _, _ => stuck
def Tg.raw (K : PySem.W.Frag) : Tg → TG
  | .nm i => gName i
  | .tp is => gTup K is.length (gNs is)
def Tg.d : Tg → D → En → M En
  | .nm i => gN i
  | .tp is => fun d ρ s => match d.t? with | some ds => if ds.length = is.length then gNsD is ds ρ s else .no | none => .no
def Tg.ix : Tg → List Nat
  | .nm i => [i]
  | .tp is => is
theorem wipe_set {i : Nat} {x : Option V} : ∀ {vs : List Nat} {σ : L2.St}, i ∈ vs → wipe (σ.set i x) vs = wipe σ vs
  | [], _, h => by cases h
  | v :: vs, σ, h => by
    show (wipe (σ.set i x) vs).set v none = (wipe σ vs).set v none
    by_cases hi : i ∈ vs
    · rw [wipe_set hi]
    · have e : i = v := by
        rcases List.mem_cons.mp h with e | e
        · exact e
        · exact absurd e hi
      subst e
      rw [wipe_set0 vs hi, List.set_set]
where
  wipe_set0 {i : Nat} {x : Option V} : ∀ (vs : List Nat) {σ : L2.St}, i ∉ vs → wipe (σ.set i x) vs = (wipe σ vs).set i x
    | [], _, _ => rfl
    | v :: vs, σ, h => by
      show (wipe (σ.set i x) vs).set v none = ((wipe σ vs).set v none).set i x
      rw [wipe_set0 vs (fun q => h (List.mem_cons_of_mem _ q)), List.set_comm _ _ (fun e => h (by rw [e]; exact List.mem_cons_self))]
theorem wipe_idem : ∀ {vs : List Nat} {σ : L2.St}, wipe (wipe σ vs) vs = wipe σ vs
  | [], _ => rfl
  | v :: vs, σ => by
    show (wipe ((wipe σ vs).set v none) vs).set v none = (wipe σ vs).set v none
    by_cases h : v ∈ vs
    · rw [wipe_set h, wipe_idem]
    · rw [wipe_set.wipe_set0 vs h, wipe_idem, List.set_set]
section
variable {K : PySem.W.Frag} {mg : Str → Option Value} {E : XK}
theorem gNs_run {vs : List Nat} {σ0 : L2.St} : ∀ {is : List Nat} {ds : List D} {us : List V} {ρ : En} {σ : L2.St} {w : Wd} {Q : L2.St → Hp → Prop}, (∀ i ∈ is, i ∈ vs) → wipe σ vs = σ0 → w.Ok K → w.repL K ds us → RepE K w ρ σ →
    Fin K mg E w (gNsD is ds ρ w.s) (fun ρ' w' => ∀ σ', RepE K w' ρ' σ' → wipe σ' vs = σ0 → Q σ' w'.H) → gNs is us σ w.H Q
  | [], _, _, ρ, σ, w, Q, _, hw, ok, .nil, re, h => ⟨rfl, fin_ret ok h σ re hw⟩
  | [], _, _, ρ, σ, w, Q, _, hw, ok, .cons _ _, re, h => h.elim
  | i :: is, _, _, ρ, σ, w, Q, _, hw, ok, .nil, re, h => h.elim
  | i :: is, _, _, ρ, σ, w, Q, hi, hw, ok, .cons r rr, re, h =>
    ⟨_, _, rfl, gNs_run (fun j hj => hi j (List.mem_cons_of_mem _ hj)) ((wipe_set (hi i List.mem_cons_self)).trans hw) ok rr (re.set i r) h⟩
theorem Tg.run {tg : Tg} {vs : List Nat} (hs : ∀ i ∈ tg.ix, i ∈ vs) {d : D} {v : V} {ρ : En} {σ σ0 : L2.St} {w : Wd} {Q : L2.St → Hp → Prop} (hw : wipe σ vs = σ0) (ok : w.Ok K) (r : w.rep K d v) (re : RepE K w ρ σ)
    (h : Fin K mg E w (tg.d d ρ w.s) (fun ρ' w' => ∀ σ', RepE K w' ρ' σ' → wipe σ' vs = σ0 → Q σ' w'.H)) : tg.raw K v σ w.H Q := by
  cases tg with
  | nm i => exact fin_ret ok h _ (re.set i r) ((wipe_set (hs i (by simp [Tg.ix]))).trans hw)
  | tp is =>
    have h' : Fin K mg E w (match d.t? with | some ds => if ds.length = is.length then gNsD is ds ρ w.s else .no | none => .no) (fun ρ' w' => ∀ σ', RepE K w' ρ' σ' → wipe σ' vs = σ0 → Q σ' w'.H) := h
    split at h'
    · rename_i ds hd
      split at h'
      · rename_i hl
        obtain ⟨a, xs, rfl, ha, ra⟩ := rep_tup r hd
        exact ⟨a, xs, rfl, SqT.of (ok.fr _ _ ha), by rw [← ra.length]; exact hl, gNs_run (fun i hi => hs i hi) hw ok ra re h'⟩
      · exact h'.elim
    · exact h'.elim
/-! the list that grows, set apart -/
def Wd.setZ (w : Wd) (Z : List Addr) : Wd := { w with Z := Z }
theorem Wd.Ok.unZ {w : Wd} {D : Addr} {Z : List Addr} (ok : w.Ok K) (hz : w.Z = D :: Z) : (w.setZ Z).Ok K :=
  ⟨ok.fr, ok.len, ok.cell, ok.dead, ok.inj, fun a ha => ok.zz a (by rw [hz]; exact List.mem_cons_of_mem _ ha), ok.nt, fun a ha => ok.zo a (by rw [hz]; exact List.mem_cons_of_mem _ ha), fun n x q e a ha => ok.zt n x q e a (by rw [hz]; exact List.mem_cons_of_mem _ ha)⟩
theorem Wd.Ok.upZ {w : Wd} {D : Addr} {Z : List Addr} {o o' : HO} (ok : w.Ok K) (hz : w.Z = D :: Z) (hd : D ∉ Z) (ho : CellObj D o' := by exact .inl ⟨_, rfl⟩) (hnt : ∀ ps, o' ≠ .tbl ps := by intro _ h; cases h) : (⟨w.I, w.L, w.Z, w.s, upd w.H D o'⟩ : Wd).Ok K := by
  obtain ⟨z1, z2, u, hu⟩ := ok.zz D (by rw [hz]; exact List.mem_cons_self)
  refine ⟨fun a x e => ?_, ok.len, fun n a c e1 e2 => ?_, ok.dead, ok.inj, fun a ha => ?_, ok.nt, fun a ha x e => ?_, fun n x q e a ha ps z => ?_⟩
  · show upd w.H D o' a = some x
    rw [upd_ne (ne_of_none e z1)]; exact ok.fr a x e
  · obtain ⟨c1, c2⟩ := ok.cell n a c e1 e2
    have hne : a ≠ D := fun e => z2 (by rw [← e]; exact List.mem_of_getElem? e1)
    exact ⟨c1, c2.mono (fun _ _ e => e) List.prefix_rfl (upd_ne hne).symm⟩
  · obtain ⟨y1, y2, x, hx⟩ := ok.zz a ha
    by_cases e : a = D
    · subst e; exact ⟨y1, y2, _, upd_same⟩
    · exact ⟨y1, y2, x, (upd_ne e).trans hx⟩
  · have e' : upd w.H D o' a = some x := e
    by_cases q : a = D
    · subst q
      rw [upd_same] at e'
      cases e'
      exact ho
    · rw [upd_ne q] at e'
      exact ok.zo a ha x e'
  · have z' : upd w.H D o' a = some (.tbl ps) := z
    by_cases y : a = D
    · subst y
      rw [upd_same] at z'
      exact hnt ps (Option.some.inj z')
    · rw [upd_ne y] at z'
      exact ok.zt n x q e a ha ps z'
theorem Wd.Ok.newZ {w : Wd} {p : Addr} {o : HO} (ok : w.Ok K) (hp : w.H p = none) (ho : CellObj p o := by exact .inl ⟨_, rfl⟩) (hnt : ∀ ps, o ≠ .tbl ps := by intro _ h; cases h) : (⟨w.I, w.L, p :: w.Z, w.s, upd w.H p o⟩ : Wd).Ok K ∧ p ∉ w.Z := by
  have hI := ok.freeI hp
  have hL : p ∉ w.L := fun z => by
    obtain ⟨n, hn⟩ := List.getElem?_of_mem z
    obtain ⟨o', e⟩ := ok.there hn
    rw [e] at hp; cases hp
  have hZ : p ∉ w.Z := fun z => by
    obtain ⟨_, _, u, hu⟩ := ok.zz p z
    rw [hu] at hp; cases hp
  refine ⟨⟨fun a x e => ?_, ok.len, fun n a c e1 e2 => ?_, ok.dead, ok.inj, fun a ha => ?_, ok.nt, fun a ha x e => ?_, fun n x q e a ha ps z => ?_⟩, hZ⟩
  · show upd w.H p o a = some x
    rw [upd_ne (ne_of_none e hI)]; exact ok.fr a x e
  · obtain ⟨c1, c2⟩ := ok.cell n a c e1 e2
    have hne : a ≠ p := fun e => hL (by rw [← e]; exact List.mem_of_getElem? e1)
    exact ⟨c1, c2.mono (fun _ _ e => e) List.prefix_rfl (upd_ne hne).symm⟩
  · rcases List.mem_cons.mp ha with rfl | ha
    · exact ⟨hI, hL, _, upd_same⟩
    · obtain ⟨y1, y2, x, hx⟩ := ok.zz a ha
      have e : a ≠ p := fun e => hZ (e ▸ ha)
      exact ⟨y1, y2, x, (upd_ne e).trans hx⟩
  · have e' : upd w.H p o a = some x := e
    rcases List.mem_cons.mp ha with rfl | ha
    · rw [upd_same] at e'
      cases e'
      exact ho
    · have q : a ≠ p := fun q => hZ (by rw [← q]; exact ha)
      rw [upd_ne q] at e'
      exact ok.zo a ha x e'
  · have z' : upd w.H p o a = some (.tbl ps) := z
    rcases List.mem_cons.mp ha with rfl | ha
    · rw [upd_same] at z'
      exact hnt ps (Option.some.inj z')
    · have y : a ≠ p := fun y => hZ (by rw [← y]; exact ha)
      rw [upd_ne y] at z'
      exact ok.zt n x q e a ha ps z'
theorem Fin.inZ {α : Type} {r : R α} {Q : α → Wd → Prop} {w : Wd} {D : Addr} {Z : List Addr} {E' : XK} (hz : w.Z = D :: Z) (hr : ∀ c s, r ≠ .er c s) (h : Fin K mg E (w.setZ Z) r Q) : Fin K mg E' w r (fun a w' => Q a (w'.setZ Z)) := by
  cases r with
  | ok a s =>
    intro w' l ok hs
    refine h (w'.setZ Z) ⟨l.i, l.l, rfl, fun b hb => l.zh b (by rw [hz]; exact List.mem_cons_of_mem _ hb)⟩ ?_ hs
    exact ok.unZ (l.z.trans hz)
  | er c s => exact absurd rfl (hr c s)
  | no => exact h
theorem noEr_ne {α : Type} (m : M α) (s : Sto) : ∀ c s', noEr m s ≠ .er c s' := by
  intro c s'
  unfold noEr
  cases m s <;> (intro h; cases h)
theorem noEr_fin {α : Type} {m : M α} {w : Wd} {Q : α → Wd → Prop} (h : Fin K mg E w (noEr m w.s) Q) : Fin K mg E w (m w.s) Q := by
  unfold noEr at h
  cases hm : m w.s with
  | ok a s => rw [hm] at h; exact h
  | er c s => rw [hm] at h; exact h.elim
  | no => rw [hm] at h; exact h
end
section
variable {X : Cx} {E : XK} {pos : Pos} {elt tgE iter : Expr} {ifs : List Expr} {scope : Scope} {own : List (Str × Nat)} {fi : En → M (List D)} {t : En → M Bool} {f : En → M D} {k : Nat}
/-- what a comprehension makes of its list -/
def eLcK (k : List D → M D) (vs : List Nat) (fi : En → M (List D)) (g : D → En → M En) (t : En → M Bool) (f : En → M D) : En → M D := fun ρ => bnd (fi ρ) fun ds => if szOk ds.length = true then bnd (lcL (lcB vs g t f ρ) ds) k else stuck
def KeepZ (k : List D → M D) : Prop := ∀ (K : PySem.W.Frag) (mg : Str → Option Value) (E : XK) (Dl : Addr) (Z1 : List Addr) (acc : List V) (accD : List D) (Q : VK) (w : Wd), w.Z = Dl :: Z1 → Dl ∉ Z1 → w.Ok K → w.H Dl = some (.lst acc) → w.repL K accD acc →
  Fin K mg E (w.setZ Z1) (k accD w.s) (fun d w' => ∀ v, w'.rep K d v → Q v w'.H) → Q (.ref Dl) w.H
theorem keepZ_lst : KeepZ fun ys => ret (.lst ys) := fun K mg E Dl Z1 acc accD Q w2 hz2 hDZ ok2 hacc2 racc h3 => by
        obtain ⟨z1, z2, _⟩ := ok2.zz Dl (by rw [hz2]; exact List.mem_cons_self)
        have lf : (w2.setZ Z1).le ⟨upd w2.I Dl (.lst acc), w2.L, Z1, w2.s, w2.H⟩ := ⟨ext_upd z1, List.prefix_rfl, rfl, fun _ _ => rfl⟩
        refine h3 ⟨upd w2.I Dl (.lst acc), w2.L, Z1, w2.s, w2.H⟩ lf ⟨fun a x e => ?_, ok2.len, fun n a c e1 e2 => ?_, fun n a e1 e2 => ?_, ok2.inj, fun a ha => ?_, fun a ps e => ?_, fun a ha => ok2.zo a (by rw [hz2]; exact List.mem_cons_of_mem _ ha), fun n x q e a ha => ok2.zt n x q e a (by rw [hz2]; exact List.mem_cons_of_mem _ ha)⟩ rfl _ (.lst upd_same (racc.le0 (show w2.le0 _ from ⟨lf.i, lf.l⟩)))
        · have e' : upd w2.I Dl (.lst acc) a = some x := e
          by_cases ha : a = Dl
          · subst ha; rw [upd_same] at e'; exact hacc2.trans e'
          · rw [upd_ne ha] at e'; exact ok2.fr a x e'
        · obtain ⟨c1, c2⟩ := ok2.cell n a c e1 e2
          have hne : a ≠ Dl := fun e => z2 (by rw [← e]; exact List.mem_of_getElem? e1)
          exact ⟨fun z => (upd_ne hne).trans (c1 z), c2.mono (ext_upd z1) List.prefix_rfl rfl⟩
        · have hne : a ≠ Dl := fun e => z2 (by rw [← e]; exact List.mem_of_getElem? e1)
          show upd w2.I Dl (.lst acc) a ≠ none
          rw [upd_ne hne]; exact ok2.dead n a e1 e2
        · obtain ⟨y1, y2, x, hx⟩ := ok2.zz a (by rw [hz2]; exact List.mem_cons_of_mem _ ha)
          have hne : a ≠ Dl := fun e => hDZ (e ▸ ha)
          exact ⟨(upd_ne hne).trans y1, y2, x, hx⟩
        · have e' : upd w2.I Dl (.lst acc) a = some (.tbl ps) := e
          by_cases q : a = Dl
          · subst q
            rw [upd_same] at e'
            cases e'
          · rw [upd_ne q] at e'
            exact ok2.nt a ps e'
theorem keepZ_loc : KeepZ mkLoc := fun K mg E Dl Z1 acc accD Q w2 hz2 hDZ ok2 hacc2 racc h3 => by
  obtain ⟨z1, z2, _⟩ := ok2.zz Dl (by rw [hz2]; exact List.mem_cons_self)
  unfold mkLoc at h3
  split at h3
  · have hpre : w2.L <+: w2.L ++ [Dl] := List.prefix_append _ _
    have lf : (w2.setZ Z1).le ⟨w2.I, w2.L ++ [Dl], Z1, w2.s ++ [some (.lst accD)], w2.H⟩ := ⟨fun _ _ e => e, hpre, rfl, fun _ _ => rfl⟩
    have low : ∀ {n : Nat} {a : Addr}, (w2.L ++ [Dl])[n]? = some a → (n < w2.L.length ∧ w2.L[n]? = some a ∧ (w2.s ++ [some (Cell.lst accD)])[n]? = w2.s[n]?) ∨ (n = w2.L.length ∧ a = Dl ∧ (w2.s ++ [some (Cell.lst accD)])[n]? = some (some (Cell.lst accD))) := by
      intro n a e
      have hn : n < (w2.L ++ [Dl]).length := (List.getElem?_eq_some_iff.mp e).1
      rw [List.length_append, List.length_singleton] at hn
      by_cases hl : n < w2.L.length
      · rw [List.getElem?_append_left hl] at e
        exact .inl ⟨hl, e, List.getElem?_append_left (by rw [← ok2.len]; exact hl)⟩
      · have hn' : n = w2.L.length := by omega
        subst hn'
        rw [List.getElem?_append_right (Nat.le_refl _), Nat.sub_self] at e
        refine .inr ⟨rfl, (Option.some.inj e).symm, ?_⟩
        rw [ok2.len, List.getElem?_append_right (Nat.le_refl _), Nat.sub_self]; rfl
    refine h3 ⟨w2.I, w2.L ++ [Dl], Z1, w2.s ++ [some (.lst accD)], w2.H⟩ lf ⟨ok2.fr, ?_, fun n a c e1 e2 => ?_, fun n a e1 e2 => ?_, ?_, fun a ha => ?_, ok2.nt, fun a ha => ok2.zo a (by rw [hz2]; exact List.mem_cons_of_mem _ ha), fun n x q e a ha => ok2.zt n x q (tab_app rfl e) a (by rw [hz2]; exact List.mem_cons_of_mem _ ha)⟩ rfl _ (.loc (n := w2.s.length) ?_)
    · show (w2.L ++ [Dl]).length = (w2.s ++ [some (Cell.lst accD)]).length
      rw [List.length_append, List.length_append, ok2.len]; rfl
    · rcases low e1 with ⟨_, h1, h2⟩ | ⟨_, h1, h2⟩
      · obtain ⟨c1, c2⟩ := ok2.cell n a c h1 (h2.symm.trans e2)
        exact ⟨c1, c2.mono (fun _ _ e => e) hpre rfl⟩
      · subst h1
        have z : some (some (Cell.lst accD)) = some (some c) := h2.symm.trans e2
        cases z
        exact ⟨fun _ => z1, acc, hacc2, racc.mono (fun _ _ e => e) hpre⟩
    · rcases low e1 with ⟨_, h1, h2⟩ | ⟨_, h1, h2⟩
      · exact ok2.dead n a h1 (h2.symm.trans e2)
      · have z : some (some (Cell.lst accD)) = some none := h2.symm.trans e2
        cases z
    · show (w2.L ++ [Dl]).Nodup
      rw [List.nodup_append]
      refine ⟨ok2.inj, by simp, ?_⟩
      intro a ha b hb
      have : b = Dl := by simpa using hb
      subst this
      rintro rfl
      exact z2 ha
    · obtain ⟨y1, y2, x, hx⟩ := ok2.zz a (by rw [hz2]; exact List.mem_cons_of_mem _ ha)
      refine ⟨y1, fun q => ?_, x, hx⟩
      rcases List.mem_append.mp q with q | q
      · exact y2 q
      · have : a = Dl := by simpa using q
        exact hDZ (this ▸ ha)
    · show (w2.L ++ [Dl])[w2.s.length]? = some Dl
      rw [← ok2.len, List.getElem?_append_right (Nat.le_refl _), Nat.sub_self]; rfl
  · exact h3.elim
theorem lcK_run {k : List D → M D} (hk : KeepZ k) (tg : Tg) (vs : List Nat) (hv : ∀ i ∈ tg.ix, i ∈ vs) {σ : L2.St} {H : Hp} {Q : VK} (h : tD X.K X.mg E (eLcK k vs fi tg.d t f) σ H Q) :
    tLc (tDI X.K X.mg E fi) (tg.raw X.K) (tDT X.K X.mg E0 t) (tD X.K X.mg E0 f) vs σ H Q := by
  obtain ⟨ρ, w, e, ok, re, h⟩ := h
  subst e
  refine ⟨ρ, w, rfl, ok, re, (Fin.bind h).imp fun ds w1 l1 ok1 h1 J hJ Dl hD => ?_⟩
  by_cases hz : szOk ds.length = true
  · rw [if_pos hz] at h1
    obtain ⟨okz, hDZ⟩ := ok1.newZ (o := .lst []) hD
    have re1 := (re.le l1).wipe vs
    refine ⟨fun i m H => m = ds.length - i ∧ i ≤ ds.length ∧ ∃ (acc : List V) (accD : List D) (w : Wd), w.H = H ∧ w1.le0 w ∧ w1.le (w.setZ w1.Z) ∧ w.Z = Dl :: w1.Z ∧ w.Ok X.K ∧ w.H Dl = some (.lst acc) ∧ acc.length ≤ i ∧ w.repL X.K accD acc ∧
      Fin X.K X.mg E (w.setZ w1.Z) (((lcL (lcB vs tg.d t f ρ) (ds.drop i)) w.s).bind fun ys => k (accD ++ ys)) (fun d w' => ∀ v, w'.rep X.K d v → Q v w'.H), ?_, ?_⟩
    · refine ⟨ds.length, by omega, Nat.zero_le _, [], [], ⟨w1.I, w1.L, Dl :: w1.Z, w1.s, upd w1.H Dl (.lst [])⟩, rfl, ⟨fun _ _ e => e, List.prefix_rfl⟩, ⟨fun _ _ e => e, List.prefix_rfl, rfl, fun a ha => upd_ne (fun e => hDZ (e ▸ ha))⟩, rfl, okz, upd_same, Nat.le_refl _, .nil, ?_⟩
      exact Fin.up h1 ⟨fun _ _ e => e, List.prefix_rfl, rfl, fun a ha => upd_ne (fun e => hDZ (e ▸ ha))⟩
    · rintro i m H2 ⟨rfl, hle, acc, accD, w2, rfl, l02, l2, hz2, ok2, hacc, hlen, racc, h2⟩
      have ok2u := ok2.unZ hz2
      by_cases hlt : i < ds.length
      · have hd : ds[i]? = some ds[i] := List.getElem?_eq_getElem hlt
        rw [List.drop_eq_getElem_cons hlt] at h2
        refine .inr ⟨hJ.go w2 i l02 ok2 hlt, fun H' => ∃ (acc : List V) (accD : List D) (w : Wd), w.H = H' ∧ w1.le0 w ∧ w1.le (w.setZ w1.Z) ∧ w.Z = Dl :: w1.Z ∧ w.Ok X.K ∧ w.H Dl = some (.lst acc) ∧ acc.length ≤ i + 1 ∧ w.repL X.K accD acc ∧
          Fin X.K X.mg E (w.setZ w1.Z) (((lcL (lcB vs tg.d t f ρ) (ds.drop (i + 1))) w.s).bind fun ys => k (accD ++ ys)) (fun d w' => ∀ v, w'.rep X.K d v → Q v w'.H),
          fun H' p' => ⟨ds.length - (i + 1), by omega, rfl, hlt, p'⟩, fun x H' y => ?_⟩
        obtain ⟨w3, l3, ok3, es, eh, r3⟩ := hJ.yld w2 i _ x H' l02 ok2 hd y
        subst eh
        have hz3 : w3.Z = Dl :: w1.Z := l3.z.trans hz2
        have hacc3 : w3.H Dl = some (.lst acc) := (l3.zh Dl (by rw [hz2]; exact List.mem_cons_self)).trans hacc
        have l3u : (w2.setZ w1.Z).le (w3.setZ w1.Z) := ⟨l3.i, l3.l, rfl, fun b hb => l3.zh b (by rw [hz2]; exact List.mem_cons_of_mem _ hb)⟩
        have h3 : Fin X.K X.mg E (w3.setZ w1.Z) ((lcB vs tg.d t f ρ ds[i] w3.s).bind fun o => fun s => ((lcL (lcB vs tg.d t f ρ) (ds.drop (i + 1))) s).bind fun ys => k (accD ++ (match o with | some y => y :: ys | none => ys))) (fun d w' => ∀ v, w'.rep X.K d v → Q v w'.H) := by
          have e : (((lcL (lcB vs tg.d t f ρ) (ds[i] :: ds.drop (i + 1))) w2.s).bind fun ys => k (accD ++ ys)) = ((lcB vs tg.d t f ρ ds[i] w3.s).bind fun o => fun s => ((lcL (lcB vs tg.d t f ρ) (ds.drop (i + 1))) s).bind fun ys => k (accD ++ (match o with | some y => y :: ys | none => ys))) := by
            rw [es]
            show ((R.bind (lcB vs tg.d t f ρ ds[i] w2.s) fun o => bnd (lcL (lcB vs tg.d t f ρ) (ds.drop (i + 1))) fun ys => ret (match o with | some y => y :: ys | none => ys)).bind _) = _
            cases lcB vs tg.d t f ρ ds[i] w2.s with
            | ok o s =>
              show ((R.bind (lcL (lcB vs tg.d t f ρ) (ds.drop (i + 1)) s) _).bind _) = R.bind (lcL (lcB vs tg.d t f ρ) (ds.drop (i + 1)) s) _
              cases lcL (lcB vs tg.d t f ρ) (ds.drop (i + 1)) s <;> rfl
            | er c s => rfl
            | no => rfl
          rw [← e]
          exact Fin.up h2 l3u
        have h4 := Fin.inZ (E' := E0) hz3 (noEr_ne _ _) (Fin.bind h3)
        have h5 := noEr_fin h4
        have re3 : RepE X.K w3 (wipeD ρ vs) (wipe σ vs) := (re1.le0 l02).le l3
        refine Tg.run hv wipe_idem ok3 r3 re3 ((Fin.bind h5).imp fun ρ4 w4 l4 ok4 h6 σ4 re4 hw4 => ⟨hw4, ?_⟩)
        refine ⟨ρ4, w4, rfl, ok4, re4, (Fin.bind h6).imp fun b w5 l5 ok5 h7 => ?_⟩
        have hz5 : w5.Z = Dl :: w1.Z := (l5.z.trans l4.z).trans hz3
        have hacc5 : w5.H Dl = some (.lst acc) := by
          rw [l5.zh Dl (by rw [l4.z, hz3]; exact List.mem_cons_self), l4.zh Dl (by rw [hz3]; exact List.mem_cons_self)]; exact hacc3
        have l05 : w1.le0 w5 := ((l02.trans l3.le0).trans l4.le0).trans l5.le0
        have zin : ∀ {a : Addr}, a ∈ w1.Z → a ∈ w3.Z := fun ha => by rw [hz3]; exact List.mem_cons_of_mem _ ha
        have l5u : w1.le (w5.setZ w1.Z) := ⟨l05.i, l05.l, rfl, fun a ha => by
          show w5.H a = w1.H a
          rw [l5.zh a (by rw [l4.z]; exact zin ha), l4.zh a (zin ha)]
          exact (l3u.zh a ha).trans (l2.zh a ha)⟩
        cases b with
        | false =>
          have h8 := fin_ret (mg := X.mg) (E := E0) ok5 h7
          exact ⟨acc, accD, w5, rfl, l05, l5u, hz5, ok5, hacc5, Nat.le_succ_of_le hlen, racc.le0 ((l3.le0.trans l4.le0).trans l5.le0), h8⟩
        | true =>
          refine ⟨ρ4, w5, rfl, ok5, re4.le l5, (Fin.bind h7).imp fun y w6 l6 ok6 h8 v rv => ?_⟩
          have h9 := fin_ret (mg := X.mg) (E := E0) ok6 h8
          have hz6 : w6.Z = Dl :: w1.Z := l6.z.trans hz5
          have hacc6 : w6.H Dl = some (.lst acc) := (l6.zh Dl (by rw [hz5]; exact List.mem_cons_self)).trans hacc5
          have okn := ok6.upZ (o := .lst acc) (o' := .lst (acc ++ [v])) hz6 hDZ
          have lu : (w6.setZ w1.Z).le ((⟨w6.I, w6.L, w6.Z, w6.s, upd w6.H Dl (.lst (acc ++ [v]))⟩ : Wd).setZ w1.Z) := ⟨fun _ _ e => e, List.prefix_rfl, rfl, fun a ha => upd_ne (fun e => hDZ (e ▸ ha))⟩
          have l6u : w1.le (w6.setZ w1.Z) := ⟨(l05.trans l6.le0).i, (l05.trans l6.le0).l, rfl, fun a ha => (l6.zh a (by rw [hz5]; exact List.mem_cons_of_mem _ ha)).trans (l5u.zh a ha)⟩
          refine ⟨acc, hacc6, ?_, acc ++ [v], accD ++ [y], ⟨w6.I, w6.L, w6.Z, w6.s, upd w6.H Dl (.lst (acc ++ [v]))⟩, rfl, ⟨(l05.trans l6.le0).i, (l05.trans l6.le0).l⟩, l6u.trans lu, hz6, okn, upd_same, ?_, ?_, ?_⟩
          · have := szOk_le hz
            omega
          · rw [List.length_append, List.length_singleton]; omega
          · exact (racc.le0 (((l3.le0.trans l4.le0).trans l5.le0).trans l6.le0)).append (.cons rv .nil)
          · have h10 := Fin.up h9 lu
            simp only [List.append_assoc, List.singleton_append]
            exact h10
      · have hi' : i = ds.length := by omega
        subst hi'
        rw [List.drop_length] at h2
        refine .inl ⟨hJ.stop w2 _ l02 ok2 (Nat.le_refl _), ?_⟩
        have h3 : Fin X.K X.mg E (w2.setZ w1.Z) (k accD w2.s) (fun d w' => ∀ v, w'.rep X.K d v → Q v w'.H) := by
          have h2' : Fin X.K X.mg E (w2.setZ w1.Z) (k (accD ++ []) w2.s) (fun d w' => ∀ v, w'.rep X.K d v → Q v w'.H) := h2
          rw [List.append_nil] at h2'
          exact h2'
        exact hk _ _ _ _ _ _ _ _ w2 hz2 hDZ ok2 hacc racc h3
  · rw [if_neg hz] at h1; exact h1.elim
theorem lc_run (tg : Tg) (vs : List Nat) (hv : ∀ i ∈ tg.ix, i ∈ vs) {σ : L2.St} {H : Hp} {Q : VK} (h : tD X.K X.mg E (eLc vs fi tg.d t f) σ H Q) :
    tLc (tDI X.K X.mg E fi) (tg.raw X.K) (tDT X.K X.mg E0 t) (tD X.K X.mg E0 f) vs σ H Q := lcK_run keepZ_lst tg vs hv h
/-- [.. for ..] that is changed later -/
theorem de_lcL (own : List (Str × Nat)) (tg : Tg) (C : Ctl X E k) (hi : DI X E tgE iter fi) (ok : blkC X.N X.env.scope scope own = true)
    (hg : ∀ (s : Shared) (H : Hp) (C : Addr) (cl : List (Str × Addr)) (fp : List Addr), PG (X.blk s H scope (compEnvC scope cl C X.env) fp) tgE (tg.raw X.K)) (ht : ∀ (s : Shared) (H : Hp) (C : Addr) (cl : List (Str × Addr)) (fp : List Addr), DTs (X.blk s H scope (compEnvC scope cl C X.env) fp) E0 ifs t)
    (he : ∀ (s : Shared) (H : Hp) (C : Addr) (cl : List (Str × Addr)) (fp : List Addr), DE (X.blk s H scope (compEnvC scope cl C X.env) fp) E0 elt f) (hv : ∀ i ∈ tg.ix, i ∈ own.map (·.2) := by decide) (hs : ∀ x, foldedSetIterable iter X.env x = pure x := by intro _; rfl) :
    DE X E (.ListComp elt [⟨tgE, iter, ifs, 0⟩] scope pos) (eLcK mkLoc (own.map (·.2)) fi tg.d t f) :=
  (pe_lc C.calm C.nd hi (blkOk_by ok) hg ht he hs).imp fun _ _ _ h => lcK_run keepZ_loc tg _ hv h
theorem ds_setLcL (i : Nat) (own : List (Str × Nat)) (tg : Tg) {y : Str} {py spos : Pos} (C : Ctl X E k) (hi : DI X E tgE iter fi) (ok : blkC X.N X.env.scope scope own = true)
    (hg : ∀ (s : Shared) (H : Hp) (C : Addr) (cl : List (Str × Addr)) (fp : List Addr), PG (X.blk s H scope (compEnvC scope cl C X.env) fp) tgE (tg.raw X.K)) (ht : ∀ (s : Shared) (H : Hp) (C : Addr) (cl : List (Str × Addr)) (fp : List Addr), DTs (X.blk s H scope (compEnvC scope cl C X.env) fp) E0 ifs t)
    (he : ∀ (s : Shared) (H : Hp) (C : Addr) (cl : List (Str × Addr)) (fp : List Addr), DE (X.blk s H scope (compEnvC scope cl C X.env) fp) E0 elt f)
    (hsw : swapsWith (.ListComp elt [⟨tgE, iter, ifs, 0⟩] scope pos) (some (.Name y py)) spos.line X.env = pure true) (hy : X.N[i]? = some y := by rfl) (hyl : X.env.scope.names.lookup y = some .local := by rfl)
    (hv : ∀ i ∈ tg.ix, i ∈ own.map (·.2) := by decide) (hs : ∀ x, foldedSetIterable iter X.env x = pure x := by intro _; rfl) :
    DS X E (.Assign [.Name y py] (.ListComp elt [⟨tgE, iter, ifs, 0⟩] scope pos) spos) (sAsg (eLcK mkLoc (own.map (·.2)) fi tg.d t f) (gN i)) :=
  (ps_setLc C.calm C.nd hy hyl hsw hi (blkOk_by ok) hg ht he hs).imp fun Z σ H ⟨ρ, w, e, ok, re, h⟩ => by
    subst e
    refine lcK_run keepZ_loc tg _ hv ⟨ρ, w, rfl, ok, re, (Fin.bind h).imp fun d w1 l1 ok1 h1 v rv => ?_⟩
    exact fin_ret (Q := EndsQ X.K Z) ok1 h1 _ ((re.le l1).set i rv)
theorem de_lc (own : List (Str × Nat)) (tg : Tg) (C : Ctl X E k) (hi : DI X E tgE iter fi) (ok : blkC X.N X.env.scope scope own = true)
    (hg : ∀ (s : Shared) (H : Hp) (C : Addr) (cl : List (Str × Addr)) (fp : List Addr), PG (X.blk s H scope (compEnvC scope cl C X.env) fp) tgE (tg.raw X.K)) (ht : ∀ (s : Shared) (H : Hp) (C : Addr) (cl : List (Str × Addr)) (fp : List Addr), DTs (X.blk s H scope (compEnvC scope cl C X.env) fp) E0 ifs t)
    (he : ∀ (s : Shared) (H : Hp) (C : Addr) (cl : List (Str × Addr)) (fp : List Addr), DE (X.blk s H scope (compEnvC scope cl C X.env) fp) E0 elt f) (hv : ∀ i ∈ tg.ix, i ∈ own.map (·.2) := by decide) (hs : ∀ x, foldedSetIterable iter X.env x = pure x := by intro _; rfl) :
    DE X E (.ListComp elt [⟨tgE, iter, ifs, 0⟩] scope pos) (eLc (own.map (·.2)) fi tg.d t f) :=
  (pe_lc C.calm C.nd hi (blkOk_by ok) hg ht he hs).imp fun _ _ _ h => lc_run tg _ hv h
/-- name = [..] -/
theorem ds_setLc (i : Nat) (own : List (Str × Nat)) (tg : Tg) {y : Str} {py spos : Pos} (C : Ctl X E k) (hi : DI X E tgE iter fi) (ok : blkC X.N X.env.scope scope own = true)
    (hg : ∀ (s : Shared) (H : Hp) (C : Addr) (cl : List (Str × Addr)) (fp : List Addr), PG (X.blk s H scope (compEnvC scope cl C X.env) fp) tgE (tg.raw X.K)) (ht : ∀ (s : Shared) (H : Hp) (C : Addr) (cl : List (Str × Addr)) (fp : List Addr), DTs (X.blk s H scope (compEnvC scope cl C X.env) fp) E0 ifs t)
    (he : ∀ (s : Shared) (H : Hp) (C : Addr) (cl : List (Str × Addr)) (fp : List Addr), DE (X.blk s H scope (compEnvC scope cl C X.env) fp) E0 elt f)
    (hsw : swapsWith (.ListComp elt [⟨tgE, iter, ifs, 0⟩] scope pos) (some (.Name y py)) spos.line X.env = pure true) (hy : X.N[i]? = some y := by rfl) (hyl : X.env.scope.names.lookup y = some .local := by rfl)
    (hv : ∀ i ∈ tg.ix, i ∈ own.map (·.2) := by decide) (hs : ∀ x, foldedSetIterable iter X.env x = pure x := by intro _; rfl) :
    DS X E (.Assign [.Name y py] (.ListComp elt [⟨tgE, iter, ifs, 0⟩] scope pos) spos) (sAsg (eLc (own.map (·.2)) fi tg.d t f) (gN i)) :=
  (ps_setLc C.calm C.nd hy hyl hsw hi (blkOk_by ok) hg ht he hs).imp fun Z σ H ⟨ρ, w, e, ok, re, h⟩ => by
    subst e
    refine lc_run tg _ hv ⟨ρ, w, rfl, ok, re, (Fin.bind h).imp fun d w1 l1 ok1 h1 v rv => ?_⟩
    exact fin_ret (Q := EndsQ X.K Z) ok1 h1 _ ((re.le l1).set i rv)
theorem dts_nil : DTs X E [] tYesD := pts_nil.imp fun σ H Q ⟨ρ, w, e, ok, re, h⟩ => by
  subst e
  exact fin_ret ok h
theorem dts_one {c : Expr} (h : DT X E c t) : DTs X E [c] t := pts_one h
end
end DL

namespace DL
open PySem PySem.Spec PyProof.Rows L2

/-! ### calls of built-ins -/
def CallD (K : PySem.W.Frag) (mg : Str → Option Value) (E : XK) (r : List V → Hp → VK → Prop) (g : List D → M D) : Prop := ∀ (ds : List D) (vs : List V) (w : Wd) (Q : VK), w.Ok K → w.repL K ds vs →
  Fin K mg E w (g ds w.s) (fun d w' => ∀ v', w'.rep K d v' → Q v' w'.H) → r vs w.H Q
def eCall (fa : En → M (List D)) (g : List D → M D) : En → M D := fun ρ => bnd (fa ρ) g
def on1 (g : D → M D) : List D → M D := fun ds => match ds with | [a] => g a | _ => stuck
def on2 (g : D → D → M D) : List D → M D := fun ds => match ds with | [a, b] => g a b | _ => stuck
section
variable {X : Cx} {E : XK} {K : PySem.W.Frag} {mg : Str → Option Value} {pos p : Pos} {x : Str} {e : Expr} {es : List Expr} {fa : En → M (List D)} {f f1 f2 : En → M D} {g : List D → M D} {r : List V → Hp → VK → Prop} {k : Nat} {id T : String}
theorem runCall (hr : CallD X.K X.mg E r g) {σ : L2.St} {H : Hp} {Q : VK} (h : tD X.K X.mg E (eCall fa g) σ H Q) : tCB r (tDA X.K X.mg E fa) σ H Q := by
  obtain ⟨ρ, w, e, ok, re, h⟩ := h
  subst e
  exact ⟨ρ, w, rfl, ok, re, (Fin.bind h).imp fun ds w1 l1 ok1 h1 vs rv => hr ds vs w1 Q ok1 rv h1⟩
theorem de_callB (hc : CallR X (.builtin id) r) (hr : CallD X.K X.mg E r g) (hm : X.mg x = none) (hv : bootBuiltins x = some (.builtin id)) (ha : DA X E (e :: es) fa) (hg : Gl X x := by rfl) (hn : x ≠ "__name__" := by decide) (hdb : (x == ("__debug__" : Str)) = false := by decide)
    (he : starEach (e :: es) X.env = (false, eval e X.env) :: starEach es X.env := by rfl) (hpl : (backTo pos (starEach es X.env)).any (·.1) = false := by rfl) : DE X E (.Call (.Name x p) (e :: es) [] pos) (eCall fa g) :=
  (pe_callB hc hg hm hv ha hn hdb he hpl).imp fun _ _ _ h => runCall hr h
theorem de_callT (hc : CallR X (.type T) r) (hr : CallD X.K X.mg E r g) (hm : X.mg x = none) (hv : bootBuiltins x = some (.type T)) (ha : DA X E (e :: es) fa) (hg : Gl X x := by rfl) (hn : x ≠ "__name__" := by decide) (hdb : (x == ("__debug__" : Str)) = false := by decide)
    (he : starEach (e :: es) X.env = (false, eval e X.env) :: starEach es X.env := by rfl) (hpl : (backTo pos (starEach es X.env)).any (·.1) = false := by rfl) : DE X E (.Call (.Name x p) (e :: es) [] pos) (eCall fa g) :=
  (pe_callTy hc hg hm hv ha hn hdb he hpl).imp fun _ _ _ h => runCall hr h
theorem rep1 {a : D} {vs : List V} {w : Wd} (r : w.repL K [a] vs) : ∃ v, vs = [v] ∧ w.rep K a v := by
  cases r with
  | cons h t => cases t; exact ⟨_, rfl, h⟩
theorem rep2 {a b : D} {vs : List V} {w : Wd} (r : w.repL K [a, b] vs) : ∃ v u, vs = [v, u] ∧ w.rep K a v ∧ w.rep K b u := by
  cases r with
  | cons h t =>
    obtain ⟨u, rfl, h2⟩ := rep1 t
    exact ⟨_, u, rfl, h, h2⟩
theorem cd1 {g : D → M D} (h : ∀ (a : D) (v : V) (w : Wd) (Q : VK), w.Ok K → w.rep K a v → Fin K mg E w (g a w.s) (fun d w' => ∀ v', w'.rep K d v' → Q v' w'.H) → r [v] w.H Q) : CallD K mg E r (on1 g) := fun ds vs w Q ok rv q => by
  match ds, rv, q with
  | [a], rv, q => obtain ⟨v, rfl, ra⟩ := rep1 rv; exact h a v w Q ok ra q
  | [], _, q => exact q.elim
  | _ :: _ :: _, _, q => exact q.elim
theorem cd2 {g : D → D → M D} (h : ∀ (a b : D) (v u : V) (w : Wd) (Q : VK), w.Ok K → w.rep K a v → w.rep K b u → Fin K mg E w (g a b w.s) (fun d w' => ∀ v', w'.rep K d v' → Q v' w'.H) → r [v, u] w.H Q) : CallD K mg E r (on2 g) := fun ds vs w Q ok rv q => by
  match ds, rv, q with
  | [a, b], rv, q => obtain ⟨v, u, rfl, ra, rb⟩ := rep2 rv; exact h a b v u w Q ok ra rb q
  | [], _, q => exact q.elim
  | [_], _, q => exact q.elim
  | _ :: _ :: _ :: _, _, q => exact q.elim
/-! len -/
def lenD (a : D) : M D := fun s => match viewR s a with | some ds => .ok (.int (ds.length : Nat)) s | none => .no
theorem cd_len : CallD K mg E (fun xs H Q => ∃ p ys, xs = [.ref p] ∧ (SqL K H p ys ∨ SqT K H p ys) ∧ Q (.int ys.length) H) (on1 lenD) := cd1 fun a v w Q ok ra q => by
  unfold lenD at q
  split at q
  · rename_i ds h
    obtain ⟨p, ys, rfl, hs, r⟩ := rep_rd ok ra h
    refine ⟨p, ys, rfl, hs, ?_⟩
    rw [← r.length]
    exact q w (Wd.le.refl _) ok rfl _ (.int _)
  · exact q.elim
theorem de_len (hm : X.mg "len" = none) (ha : DE X E e f) (hg : Gl X "len" := by rfl) (he : starEach [e] X.env = (false, eval e X.env) :: starEach [] X.env := by rfl) : DE X E (.Call (.Name "len" p) [e] [] pos) (eCall (aCons f aNil) (on1 lenD)) :=
  de_callB call_len_seq cd_len hm PySem.boot_len (da_cons ha da_nil he) hg (by decide) (by decide) he
/-! abs, min, max, int -/
def absD (a : D) : M D := fun s => match a.i? with | some i => .ok (.int (if i < 0 then -i else i)) s | none => .no
def max2D : D → D → M D := oI cT fun i j => .int (if j > i then j else i)
def min2D : D → D → M D := oI cT fun i j => .int (if j < i then j else i)
def intD (a : D) : M D := fun s => match a.i?, a.b? with | some i, _ => .ok (.int i) s | _, some k => .ok (.int (if k = true then 1 else 0)) s | _, _ => .no
theorem de_abs (hm : X.mg "abs" = none) (ha : DE X E e f) (hg : Gl X "abs" := by rfl) (he : starEach [e] X.env = (false, eval e X.env) :: starEach [] X.env := by rfl) : DE X E (.Call (.Name "abs" p) [e] [] pos) (eCall (aCons f aNil) (on1 absD)) :=
  de_callB call_abs (cd1 fun a v w Q ok ra q => by
    unfold absD at q
    split at q
    · rename_i i h
      exact ⟨i, by rw [rep_int ra h], q w (Wd.le.refl _) ok rfl _ (.int _)⟩
    · exact q.elim) hm (by decide +kernel) (da_cons ha da_nil he) hg (by decide) (by decide) he
theorem de_max (C : Ctl X E k) {e2 : Expr} (hm : X.mg "max" = none) (ha : DE X E e f1) (hb : DE X E e2 f2) (hg : Gl X "max" := by rfl) (he : starEach [e, e2] X.env = (false, eval e X.env) :: starEach [e2] X.env := by rfl) (he2 : starEach [e2] X.env = (false, eval e2 X.env) :: starEach [] X.env := by rfl) (hpl : (backTo pos (starEach [e2] X.env)).any (·.1) = false := by rfl) : DE X E (.Call (.Name "max" p) [e, e2] [] pos) (eCall (aCons f1 (aCons f2 aNil)) (on2 max2D)) :=
  de_callB (call_max2 C.calm) (cd2 fun a b v u w Q ok ra rb q => by
    obtain ⟨i, j, rfl, rfl, _, q⟩ := oI_fin ok ra rb q
    exact ⟨i, j, rfl, q _ (.int _)⟩) hm (by decide +kernel) (da_cons ha (da_cons hb da_nil he2) he) hg (by decide) (by decide) he hpl
theorem de_min (C : Ctl X E k) {e2 : Expr} (hm : X.mg "min" = none) (ha : DE X E e f1) (hb : DE X E e2 f2) (hg : Gl X "min" := by rfl) (he : starEach [e, e2] X.env = (false, eval e X.env) :: starEach [e2] X.env := by rfl) (he2 : starEach [e2] X.env = (false, eval e2 X.env) :: starEach [] X.env := by rfl) (hpl : (backTo pos (starEach [e2] X.env)).any (·.1) = false := by rfl) : DE X E (.Call (.Name "min" p) [e, e2] [] pos) (eCall (aCons f1 (aCons f2 aNil)) (on2 min2D)) :=
  de_callB (call_min2 C.calm) (cd2 fun a b v u w Q ok ra rb q => by
    obtain ⟨i, j, rfl, rfl, _, q⟩ := oI_fin ok ra rb q
    exact ⟨i, j, rfl, q _ (.int _)⟩) hm (by decide +kernel) (da_cons ha (da_cons hb da_nil he2) he) hg (by decide) (by decide) he hpl
theorem de_intf (hm : X.mg "int" = none) (ha : DE X E e f) (hg : Gl X "int" := by rfl) (he : starEach [e] X.env = (false, eval e X.env) :: starEach [] X.env := by rfl) : DE X E (.Call (.Name "int" p) [e] [] pos) (eCall (aCons f aNil) (on1 intD)) :=
  de_callT call_int1 (cd1 fun a v w Q ok ra q => by
    unfold intD at q
    split at q
    · rename_i i h
      exact .inl ⟨i, by rw [rep_int ra h], q w (Wd.le.refl _) ok rfl _ (.int _)⟩
    · rename_i k h1 h2
      exact .inr ⟨k, by rw [rep_bl ra h1], q w (Wd.le.refl _) ok rfl _ (.int _)⟩
    · exact q.elim) hm (by decide +kernel) (da_cons ha da_nil he) hg (by decide) (by decide) he
/-! sum, all -/
def intsD : List D → Option (List Int)
  | [] => some []
  | d :: ds => match d.i?, intsD ds with | some i, some r => some (i :: r) | _, _ => none
def blsD : List D → Option (List Bool)
  | [] => some []
  | d :: ds => match d.b?, blsD ds with | some i, some r => some (i :: r) | _, _ => none
theorem repL_ints {w : Wd} : ∀ {ds : List D} {vs : List V} {ns : List Int}, w.repL K ds vs → intsD ds = some ns → vs = ns.map V.int
  | _, _, _, .nil, h => by cases h; rfl
  | _, _, _, .cons r t, h => by
    unfold intsD at h
    split at h
    · rename_i i n h1 h2
      cases h
      rw [rep_int r h1, repL_ints t h2]; rfl
    · cases h
theorem repL_bls {w : Wd} : ∀ {ds : List D} {vs : List V} {ns : List Bool}, w.repL K ds vs → blsD ds = some ns → vs = ns.map V.bl
  | _, _, _, .nil, h => by cases h; rfl
  | _, _, _, .cons r t, h => by
    unfold blsD at h
    split at h
    · rename_i i n h1 h2
      cases h
      rw [rep_bl r h1, repL_bls t h2]; rfl
    · cases h
theorem intsD_map : ∀ ns : List Int, intsD (ns.map D.int) = some ns
  | [] => rfl
  | n :: ns => by rw [List.map_cons, intsD, intsD_map ns]; rfl
theorem blsD_map : ∀ ns : List Bool, blsD (ns.map D.bl) = some ns
  | [] => rfl
  | n :: ns => by rw [List.map_cons, blsD, blsD_map ns]; rfl
def sumD (a : D) : M D := fun s => match viewL s a with
  | some ds => match intsD ds with | some ns => .ok (.int ns.sum) s | none => .no
  | none => .no
def allD (a : D) : M D := fun s => match viewL s a with
  | some ds => match blsD ds with | some ns => .ok (.bl (ns.all _root_.id)) s | none => .no
  | none => .no
theorem de_sum (C : Ctl X E k) (hm : X.mg "sum" = none) (ha : DE X E e f) (hg : Gl X "sum" := by rfl) (he : starEach [e] X.env = (false, eval e X.env) :: starEach [] X.env := by rfl) : DE X E (.Call (.Name "sum" p) [e] [] pos) (eCall (aCons f aNil) (on1 sumD)) :=
  de_callB (cr_sum C.calm) (cd1 fun a v w Q ok ra q => by
    unfold sumD at q
    split at q
    · rename_i ds h
      split at q
      · rename_i ns hn
        obtain ⟨p, ys, rfl, hs, r⟩ := rep_lst ok ra h
        have e := repL_ints r hn
        subst e
        exact ⟨p, ns, rfl, SqL.of hs, q w (Wd.le.refl _) ok rfl _ (.int _)⟩
      · exact q.elim
    · exact q.elim) hm (by decide +kernel) (da_cons ha da_nil he) hg (by decide) (by decide) he
theorem de_all (C : Ctl X E k) (hm : X.mg "all" = none) (ha : DE X E e f) (hg : Gl X "all" := by rfl) (he : starEach [e] X.env = (false, eval e X.env) :: starEach [] X.env := by rfl) : DE X E (.Call (.Name "all" p) [e] [] pos) (eCall (aCons f aNil) (on1 allD)) :=
  de_callB (cr_all C.calm) (cd1 fun a v w Q ok ra q => by
    unfold allD at q
    split at q
    · rename_i ds h
      split at q
      · rename_i ns hn
        obtain ⟨p, ys, rfl, hs, r⟩ := rep_lst ok ra h
        have e := repL_bls r hn
        subst e
        exact ⟨p, ns, rfl, SqL.of hs, q w (Wd.le.refl _) ok rfl _ (.bl _)⟩
      · exact q.elim
    · exact q.elim) hm (by decide +kernel) (da_cons ha da_nil he) hg (by decide) (by decide) he
/-! tuple(..), list(..) -/
def tupleD (a : D) : M D := fun s => match a.t? with
  | some ds => .ok (.tup ds) s
  | none => match viewF s a with | some ds => .ok (.tup ds) s | none => .no
def listD2 (a : D) : M D := fun s => match viewR s a with | some ds => .ok (.lst ds) s | none => .no
theorem de_tuplef (hm : X.mg "tuple" = none) (ha : DE X E e f) (hg : Gl X "tuple" := by rfl) (he : starEach [e] X.env = (false, eval e X.env) :: starEach [] X.env := by rfl) : DE X E (.Call (.Name "tuple" p) [e] [] pos) (eCall (aCons f aNil) (on1 tupleD)) :=
  de_callT call_tuple_of (cd1 fun a v w Q ok ra q => by
    unfold tupleD at q
    split at q
    · rename_i ds h
      obtain ⟨p, ys, rfl, hs, r⟩ := rep_tup ra h
      exact ⟨p, ys, rfl, .inr ⟨SqT.of (ok.fr _ _ hs), q w (Wd.le.refl _) ok rfl _ (.tup hs r)⟩⟩
    · split at q
      · rename_i ds h
        obtain ⟨p, ys, rfl, hs, r⟩ := rep_rf ok ra h
        refine ⟨p, ys, rfl, .inl ⟨hs, fun l hl => ?_⟩⟩
        obtain ⟨ok', l'⟩ := ok.newI hl (.tup ys)
        exact q _ l' ok' rfl _ (.tup upd_same (r.le l'))
      · exact q.elim) hm (by decide +kernel) (da_cons ha da_nil he) hg (by decide) (by decide) he
theorem de_listf (hm : X.mg "list" = none) (ha : DE X E e f) (hg : Gl X "list" := by rfl) (he : starEach [e] X.env = (false, eval e X.env) :: starEach [] X.env := by rfl) : DE X E (.Call (.Name "list" p) [e] [] pos) (eCall (aCons f aNil) (on1 listD2)) :=
  de_callT call_list_of (cd1 fun a v w Q ok ra q => by
    unfold listD2 at q
    split at q
    · rename_i ds h
      obtain ⟨p, ys, rfl, hs, r⟩ := rep_rd ok ra h
      refine ⟨p, ys, rfl, hs, fun l hl => ?_⟩
      obtain ⟨ok', l'⟩ := ok.newI hl (.lst ys)
      exact q _ l' ok' rfl _ (.lst upd_same (r.le l'))
    · exact q.elim) hm (by decide +kernel) (da_cons ha da_nil he) hg (by decide) (by decide) he
/-! list(range(..)) -/
def rgOk (a b : Int) : Bool := smI a && smI b && szOk (b - a).toNat
def rgM (a b : D) : M D := fun s => match a.i?, b.i? with
  | some i, some j => if rgOk i j = true then .ok (.lst (rgD i (j - i).toNat)) s else .no
  | _, _ => .no
theorem rgV_rep {w : Wd} (lo : Int) (n : Nat) : w.repL K (rgD lo n) ((List.range n).map fun i => V.int (lo + (i : Nat))) := by
  unfold rgD
  generalize List.range n = l
  induction l with
  | nil => exact .nil
  | cons i l ih => exact .cons (.int _) ih
theorem rg_run {a b : D} {v u : V} {w : Wd} {Q : VK} (ok : w.Ok K) (ra : w.rep K a v) (rb : w.rep K b u) (q : Fin K mg E w (rgM a b w.s) (fun d w' => ∀ v', w'.rep K d v' → Q v' w'.H)) :
    ∃ i j, v = .int i ∧ u = .int j ∧ RgOk i j ∧ ∀ p, w.H p = none → Q (.ref p) (upd w.H p (.lst (rgV i j))) := by
  unfold rgM at q
  split at q
  · rename_i i j h1 h2
    split at q
    · rename_i h
      unfold rgOk at h
      rw [Bool.and_eq_true, Bool.and_eq_true] at h
      obtain ⟨b1, b2⟩ := smI_b h.1.1
      obtain ⟨b3, b4⟩ := smI_b h.1.2
      have b5 : (j - i).toNat ≤ 16777216 := of_decide_eq_true h.2
      refine ⟨i, j, rep_int ra h1, rep_int rb h2, ⟨b1, b2, b3, b4, by
        have e : (2 : Nat) ^ 24 = 16777216 := by decide
        rw [e]; exact b5⟩, fun p hp => ?_⟩
      obtain ⟨ok', l'⟩ := ok.newI hp (.lst (rgV i j))
      exact q _ l' ok' rfl _ (.lst upd_same (rgV_rep i _))
    · exact q.elim
  · exact q.elim
theorem de_listRg1 {p2 pos2 : Pos} (C : Ctl X E k) (hm : X.mg "list" = none) (hm2 : X.mg "range" = none) (ha : DE X E e f) (hg : Gl X "list" := by rfl) (hg2 : Gl X "range" := by rfl) (na : starEach [e] X.env = (false, eval e X.env) :: starEach [] X.env := by rfl)
    (nb : starEach [.Call (.Name "range" p2) [e] [] pos2] X.env = (false, eval (.Call (.Name "range" p2) [e] [] pos2) X.env) :: starEach [] X.env := by rfl) : DE X E (.Call (.Name "list" p) [.Call (.Name "range" p2) [e] [] pos2] [] pos) (e2 rgM (eK (.int 0)) f) :=
  (pe_listRg C.calm hg hm (prg_1 hg2 hm2 ha na) nb).imp fun σ H Q ⟨ρ, w, e, ok, re, h⟩ => by
    subst e
    refine ⟨ρ, w, rfl, ok, re, (Fin.bind (show Fin X.K X.mg E w ((f ρ w.s).bind fun y => rgM (.int 0) y) _ from h)).imp fun y w1 l1 ok1 h1 v rv => ?_⟩
    obtain ⟨i, j, e1, e2, h3, h4⟩ := rg_run ok1 (.int 0) rv h1
    cases e1
    exact ⟨j, e2, h3, h4⟩
theorem de_listRg2 {p2 pos2 : Pos} {e' : Expr} (C : Ctl X E k) (hm : X.mg "list" = none) (hm2 : X.mg "range" = none) (ha : DE X E e f1) (hb : DE X E e' f2) (hg : Gl X "list" := by rfl) (hg2 : Gl X "range" := by rfl) (na : starEach [e, e'] X.env = (false, eval e X.env) :: starEach [e'] X.env := by rfl)
    (na2 : starEach [e'] X.env = (false, eval e' X.env) :: starEach [] X.env := by rfl) (hp : (backTo pos2 (starEach [e'] X.env)).any (·.1) = false := by rfl)
    (nb : starEach [.Call (.Name "range" p2) [e, e'] [] pos2] X.env = (false, eval (.Call (.Name "range" p2) [e, e'] [] pos2) X.env) :: starEach [] X.env := by rfl) : DE X E (.Call (.Name "list" p) [.Call (.Name "range" p2) [e, e'] [] pos2] [] pos) (e2 rgM f1 f2) :=
  (pe_listRg C.calm hg hm (prg_2 hg2 hm2 ha hb na na2 hp) nb).imp fun σ H Q ⟨ρ, w, e, ok, re, h⟩ => by
    subst e
    refine ⟨ρ, w, rfl, ok, re, (Fin.bind h).imp fun x w1 l1 ok1 h1 v rv => ?_⟩
    refine ⟨ρ, w1, rfl, ok1, re.le l1, (Fin.bind h1).imp fun y w2 l2 ok2 h2 u ru => ?_⟩
    obtain ⟨i, j, e1, e2, h3, h4⟩ := rg_run ok2 (rv.le l2) ru h2
    exact ⟨i, j, e1, e2, h3, h4⟩
/-! xs.append(e) -/
def appD (x d : D) : M D := fun s => match x with
  | .loc n => match s[n]? with
    | some (some (.lst ds)) => if szOk (ds.length + 1) = true then .ok .non (s.set n (some (.lst (ds ++ [d])))) else .no
    | _ => .no
  | _ => .no
def isCell (x : D) : M Unit := fun s => match x with
  | .loc n => match s[n]? with
    | some (some (.lst _)) => .ok () s
    | _ => .no
  | _ => .no
def eApp (f1 f2 : En → M D) : En → M D := fun ρ => bnd (f1 ρ) fun x => bnd (isCell x) fun _ => bnd (f2 ρ) fun d => appD x d
theorem de_app {apos : Pos} {o : Expr} (ho : DE X E o f1) (he : DE X E e f2) (na : starEach [e] X.env = (false, eval e X.env) :: starEach [] X.env := by rfl)
    (hbase : attributeBase o "append" X.env (eval o X.env) = eval o X.env := by rfl)
    (hfew : ((backTo pos (starEach (e :: []) X.env)).all (fun x => !x.1) && (backToKw pos (keywordEach [] X.env)).all (fun x => x.1.isSome)
      && decide ((e :: []).length + ([] : List Keyword).length + (if ([] : List Keyword).isEmpty then 0 else 1) < 30)) = true := by rfl)
    (hline : (apos.endLine == pos.line) = true := by rfl) : DE X E (.Call (.Attribute o "append" apos) [e] [] pos) (eApp f1 f2) :=
  (pe_bm PySem.F.plainAttrs_list PySem.F.slot_list_append PySem.F.type_list_append mt_append ho (pa_cons he pa_nil na) hbase hfew hline na).imp fun σ H Q ⟨ρ, w, e, ok, re, h⟩ => by
    subst e
    refine ⟨ρ, w, rfl, ok, re, (Fin.bind h).imp fun x w1 l1 ok1 h1 v rv => ?_⟩
    have h2 := Fin.bind h1
    unfold isCell at h2
    split at h2
    · rename_i n
      split at h2
      · rename_i ds hs
        have h3 := h2 w1 (Wd.le.refl _) ok1 rfl
        cases rv with
        | loc e =>
          rename_i a
          obtain ⟨_, xs, hx, rx⟩ := ok1.cell n a _ e hs
          refine ⟨.inl ⟨rfl, xs, SqL.of hx⟩, ρ, w1, rfl, ok1, re.le l1, (Fin.bind h3).imp fun d w2 l2 ok2 h4 u ru => ?_⟩
          unfold appD at h4
          simp only at h4
          split at h4
          · rename_i ds2 hs2
            split at h4
            · rename_i hz
              have ea : w2.L[n]? = some a := pre_get l2.l e
              obtain ⟨_, ys, hy, ry⟩ := ok2.cell n a _ ea hs2
              obtain ⟨ok3, l3⟩ := ok2.put (c := .lst (ds2 ++ [d])) (o := .lst (ys ++ [u])) ea hs2 fun H' e => ⟨_, e, ry.append (.cons ru .nil)⟩
              refine fin_nil ok2 ⟨a, ys, u, rfl, rfl, hy, ?_, h4 _ l3 ok3 rfl _ .non⟩
              have := szOk_le hz
              rw [ry.length] at this
              omega
            · exact h4.elim
          · exact h4.elim
      · exact h2.elim
    · exact h2.elim
where
  fin_nil {w2 : Wd} {P : Prop} (ok2 : w2.Ok X.K) (h : P) : P := h
end

/-! ### isinstance -/
inductive Ty where
  | int | bool | tup | lst | str | non | dict
  deriving DecidableEq
def Ty.name : Ty → String
  | .int => "int" | .bool => "bool" | .tup => "tuple" | .lst => "list" | .str => "str" | .non => "NoneType" | .dict => "dict"
def tyD (s : Sto) : D → Option Ty
  | .non => some .non
  | .bl _ => some .bool
  | .int _ => some .int
  | .str _ => some .str
  | .tup _ => some .tup
  | .lst _ => some .lst
  | .fz _ => some .lst
  | .gl _ => none
  | .loc n => match s[n]? with
    | some (some (.lst _)) => some .lst
    | some (some (.dic _)) => some .dict
    | _ => none
def isi : Ty → Ty → Bool
  | .int, .int => true | .bool, .int => true | .bool, .bool => true | .tup, .tup => true | .lst, .lst => true | .str, .str => true | .non, .non => true | .dict, .dict => true
  | _, _ => false
theorem kit_isi : ∀ a b : Ty, b ≠ .non → kitB a.name b.name = some (isi a b) := by
  intro a b h
  cases b <;> first | exact absurd rfl h | (cases a <;> decide +kernel)
def isiD (T : Ty) (a : D) : M D := fun s => match tyD s a with | some t => .ok (.bl (isi t T)) s | none => .no
def isiDs (Ts : List Ty) (a : D) : M D := fun s => match tyD s a with | some t => .ok (.bl (Ts.any fun T => isi t T)) s | none => .no
section
variable {X : Cx} {E : XK} {K : PySem.W.Frag} {mg : Str → Option Value} {pos p : Pos} {e : Expr} {f : En → M D} {k : Nat} {w : Wd}
theorem rep_ty (ok : w.Ok K) {d : D} {v : V} {t : Ty} (r : w.rep K d v) (h : tyD w.s d = some t) : TyX K w.H v (.type t.name) := by
  cases r with
  | non => cases h; exact .base .non
  | bl b => cases h; exact .base (.bl b)
  | int i => cases h; exact .base (.int i)
  | str x => cases h; exact .base (.str x)
  | tup e r => cases h; exact .base (.tup (ok.fr _ _ e))
  | lst e r => cases h; exact .base (.lst (ok.fr _ _ e))
  | fz e r =>
    cases h
    rcases sq_fr ok e with (q | ⟨o, q⟩) | ⟨o, its, n, h1, h2, _⟩
    · exact .base (.lst q)
    · exact .base (.frz q)
    · exact .kList h1 h2
  | gl e => cases h
  | loc e =>
    rename_i n a
    have h' : (match w.s[n]? with | some (some (.lst _)) => some Ty.lst | some (some (.dic _)) => some .dict | _ => none) = some t := h
    split at h'
    · rename_i ds hs
      cases h'
      obtain ⟨_, xs, hx, _⟩ := ok.cell n a _ e hs
      exact .base (.lst hx)
    · rename_i ds hs
      cases h'
      obtain ⟨_, xs, hx, _⟩ := ok.cell n a _ e hs
      exact .base (.dK hx)
    · cases h'
theorem de_isi (T : Ty) {y : Str} {p2 : Pos} (hm : X.mg "isinstance" = none) (hm2 : X.mg y = none) (hv : bootBuiltins y = some (.type T.name)) (ha : DE X E e f) (hT : T ≠ .non := by decide) (hg : Gl X "isinstance" := by rfl) (hg2 : Gl X y := by rfl) (hn : y ≠ "__name__" := by decide) (hd : (y == ("__debug__" : Str)) = false := by decide)
    (n1 : starEach [e, .Name y p2] X.env = (false, eval e X.env) :: starEach [.Name y p2] X.env := by rfl) : DE X E (.Call (.Name "isinstance" p) [e, .Name y p2] [] pos) (eCall (aCons f aNil) (on1 (isiD T))) :=
  (pe_callB call_isi hg hm (by decide +kernel) (pa_cons ha (pa_cons (pe_bltn (v := .ty T.name) hg2 hm2 hv rfl hn hd) pa_nil) n1) (by decide) (by decide) n1).imp fun σ H Q ⟨ρ, w, e, ok, re, h⟩ => by
    subst e
    have h : Fin X.K X.mg E w ((f ρ w.s).bind fun a => isiD T a) (fun d w' => ∀ v, w'.rep X.K d v → Q v w'.H) := by
      have e : ((f ρ w.s).bind fun a => isiD T a) = eCall (aCons f aNil) (on1 (isiD T)) ρ w.s := by
        show _ = (R.bind (R.bind (f ρ w.s) _) _)
        cases f ρ w.s <;> rfl
      rw [e]; exact h
    refine ⟨ρ, w, rfl, ok, re, (Fin.bind h).imp fun a w1 l1 ok1 h1 v rv => ?_⟩
    unfold isiD at h1
    split at h1
    · rename_i t ht
      exact ⟨v, .ty T.name, _, _, _, rfl, .ty _, rep_ty ok1 rv ht, kit_ty (kit_isi t T hT), h1 w1 (Wd.le.refl _) ok1 rfl _ (.bl _)⟩
    · exact h1.elim
/-- a fresh thing outside of all data -/
theorem Wd.Ok.newH {w : Wd} (k : w.Ok K) {p : Addr} (h : w.H p = none) (o : HO) : (⟨w.I, w.L, w.Z, w.s, upd w.H p o⟩ : Wd).Ok K ∧ w.le ⟨w.I, w.L, w.Z, w.s, upd w.H p o⟩ := by
  have hI := k.freeI h
  have zne : ∀ a ∈ w.Z, a ≠ p := fun a ha => by
    obtain ⟨_, _, u, hu⟩ := k.zz a ha
    exact ne_of_none hu h
  refine ⟨⟨fun a u e => ?_, k.len, fun n a c e1 e2 => ?_, k.dead, k.inj, fun a ha => ?_, k.nt, fun a ha u e => k.zo a ha u ((upd_ne (zne a ha)).symm.trans e), fun n x q e a ha ps z => k.zt n x q e a ha ps ((upd_ne (zne a ha)).symm.trans z)⟩, ⟨fun _ _ e => e, List.prefix_rfl, rfl, fun a ha => upd_ne (zne a ha)⟩⟩
  · show upd w.H p o a = some u
    rw [upd_ne (ne_of_none e hI)]; exact k.fr a u e
  · obtain ⟨c1, c2⟩ := k.cell n a c e1 e2
    obtain ⟨u, hu⟩ := c2.there
    exact ⟨c1, c2.mono (fun _ _ e => e) List.prefix_rfl (upd_ne (ne_of_none hu h)).symm⟩
  · obtain ⟨z1, z2, u, hu⟩ := k.zz a ha
    exact ⟨z1, z2, u, (upd_ne (zne a ha)).trans hu⟩
theorem de_isi3 (T1 T2 T3 : Ty) {y1 y2 y3 : Str} {p1 p2 p3 pt : Pos} {kt : Nat} (hm : X.mg "isinstance" = none) (m1 : X.mg y1 = none) (v1 : bootBuiltins y1 = some (.type T1.name)) (m2 : X.mg y2 = none) (v2 : bootBuiltins y2 = some (.type T2.name)) (m3 : X.mg y3 = none) (v3 : bootBuiltins y3 = some (.type T3.name)) (ha : DE X E e f)
    (hT1 : T1 ≠ .non := by decide) (hT2 : T2 ≠ .non := by decide) (hT3 : T3 ≠ .non := by decide) (hg : Gl X "isinstance" := by rfl) (g1 : Gl X y1 := by rfl) (g2 : Gl X y2 := by rfl) (g3 : Gl X y3 := by rfl) (n1 : y1 ≠ "__name__" := by decide) (d1 : (y1 == ("__debug__" : Str)) = false := by decide)
    (n2 : y2 ≠ "__name__" := by decide) (d2 : (y2 == ("__debug__" : Str)) = false := by decide) (n3 : y3 ≠ "__name__" := by decide) (d3 : (y3 == ("__debug__" : Str)) = false := by decide)
    (s1 : starEach [e, .Tuple [.Name y1 p1, .Name y2 p2, .Name y3 p3] kt pt] X.env = (false, eval e X.env) :: starEach [.Tuple [.Name y1 p1, .Name y2 p2, .Name y3 p3] kt pt] X.env := by rfl) :
    DE X E (.Call (.Name "isinstance" p) [e, .Tuple [.Name y1 p1, .Name y2 p2, .Name y3 p3] kt pt] [] pos) (eCall (aCons f aNil) (on1 (isiDs [T1, T2, T3]))) :=
  (pe_callB call_isiT hg hm (by decide +kernel) (pa_cons ha (pa_cons (pe_tup (pa_cons (pe_bltn (v := .ty T1.name) g1 m1 v1 rfl n1 d1) (pa_cons (pe_bltn (v := .ty T2.name) g2 m2 v2 rfl n2 d2) (pa_cons (pe_bltn (v := .ty T3.name) g3 m3 v3 rfl n3 d3) pa_nil)))) pa_nil) s1) (by decide) (by decide) s1).imp fun σ H Q ⟨ρ, w, e, ok, re, h⟩ => by
    subst e
    have h : Fin X.K X.mg E w ((f ρ w.s).bind fun a => isiDs [T1, T2, T3] a) (fun d w' => ∀ v, w'.rep X.K d v → Q v w'.H) := by
      have e : ((f ρ w.s).bind fun a => isiDs [T1, T2, T3] a) = eCall (aCons f aNil) (on1 (isiDs [T1, T2, T3])) ρ w.s := by
        show _ = (R.bind (R.bind (f ρ w.s) _) _)
        cases f ρ w.s <;> rfl
      rw [e]; exact h
    refine ⟨ρ, w, rfl, ok, re, (Fin.bind h).imp fun a w1 l1 ok1 h1 v rv => ?_⟩
    unfold isiDs at h1
    split at h1
    · rename_i t ht
      refine ⟨by show 3 ≤ sizeLine; decide, fun tp htp => ?_⟩
      obtain ⟨ok2, l2⟩ := ok1.newH htp (.tup [.ty T1.name, .ty T2.name, .ty T3.name])
      have q := h1 _ l2 ok2 rfl _ (.bl _)
      refine ⟨v, tp, _, _, [.type T1.name, .type T2.name, .type T3.name], [T1, T2, T3].any fun T => isi t T, rfl, upd_same, .cons (.ty _) (.cons (.ty _) (.cons (.ty _) .nil)), rep_ty ok2 (rv.le l2) ht, ?_, q⟩
      refine kitAny_cons (kit_ty (kit_isi t T1 hT1)) (fun b1 => kitAny_cons (kit_ty (kit_isi t T2 hT2)) (fun b2 => kitAny_cons (kit_ty (kit_isi t T3 hT3)) (fun b3 => ?_) (fun b3 => ?_)) (fun b2 => ?_)) (fun b1 => ?_)
      · rw [kitAny_nil]; simp [b1, b2, b3]
      · simp [b3]
      · simp [b2]
      · simp [b1]
    · exact h1.elim
end
end DL

namespace DL
open PySem PySem.Spec PyProof.Rows L2

/-! ### a local list given up -/
def frzAt (i : Nat) (f : En → M Fl) : En → M Fl := fun ρ => bnd (ofSlot ρ[i]?) fun d => bnd (frz d) fun d' => f (ρ.set i (some d'))
section
variable {X : Cx} {E : XK} {sts : List Stmt} {f : En → M Fl} {pos : Pos} {e : Expr} {es : List Expr} {k : Nat}
theorem dss_frz (i : Nat) (h : DSs X E sts f) : DSs X E sts (frzAt i f) := h.imp fun Z σ H ⟨ρ, w, e, ok, re, h⟩ => by
  subst e
  unfold frzAt at h
  cases hq : ρ[i]? with
  | none => rw [hq] at h; exact h.elim
  | some o =>
    cases o with
    | none => rw [hq] at h; exact h.elim
    | some d =>
      rw [hq] at h
      obtain ⟨v, hv, rv⟩ := re.2 i d hq
      obtain ⟨d', w', l', ok', eh, r', q⟩ := fin_frz ok rv (Fin.bind (show Fin X.K X.mg E w ((frz d w.s).bind fun d' => f (ρ.set i (some d'))) (EndsQ X.K Z) from h))
      refine ⟨_, w', eh, ok', ?_, q⟩
      have z := (re.le l').set i r'
      have e : σ.set i (some v) = σ := by
        apply List.ext_getElem?
        intro j
        by_cases hj : i = j
        · subst hj
          have hl : i < σ.length := (List.getElem?_eq_some_iff.mp hv).1
          rw [List.getElem?_set_self hl, hv]
        · rw [List.getElem?_set_ne hj]
      rw [e] at z
      exact z
end

theorem blk_by {N : List Str} {sc scope : Scope} {own : List (Str × Nat)} (h : blkC N sc scope own = true) : blkC N sc scope own = true := h
/-! ### defs -/
structure Def (P : Program) (w : World) (K : PySem.W.Frag) (mg : Str → Option Value) (base : Heap) (k : Nat) (x : Str) (ps : List Str) (m : List D → M D) : Prop where
  ex : ∃ (f : Addr) (fd : FuncData), mg x = some (.ref f) ∧ PySem.W.keepIn K (.ref f) = true ∧ Binds K fd ps [] ∧ FnOk P w K mg base (L2N.CX P w) k f fd ps (spM K mg m)
def flOut : Fl → M D
  | .nx _ => ret .non
  | .rt d => ret d
  | _ => stuck
/-- a def's mirror: so many parameters, so many names in all -/
def mkM (np nn : Nat) (fb : En → M Fl) : List D → M D := fun ds => if ds.length = np then bnd (fb (ds.map some ++ List.replicate (nn - np) none)) flOut else stuck
section
variable {P : Program} {w : World} {K : PySem.W.Frag} {mg : Str → Option Value} {base : Heap} {E : XK}
theorem Def.mono {j k : Nat} {x : Str} {ps : List Str} {m : List D → M D} (h : Def P w K mg base j x ps m) (l : j ≤ k) : Def P w K mg base k x ps m :=
  let ⟨f, fd, h1, h2, h3, h4⟩ := h.ex; ⟨f, fd, h1, h2, h3, h4.mono l⟩
theorem mkM_len {np nn : Nat} {fb : En → M Fl} {ds : List D} {wd : Wd} {Q : D → Wd → Prop} (h : Fin K mg E wd (mkM np nn fb ds wd.s) Q) : ds.length = np := by
  unfold mkM at h
  by_cases hl : ds.length = np
  · exact hl
  · rw [if_neg hl] at h; exact h.elim
/-- the context of a def's body -/
theorem ctl_of {N : List Str} {qual : Str} {scope : Scope} {f : Addr} {cd : Value} {A : Around} {outer : List PySem.Env} {s : Shared} {H : Hp} {k : Nat} (hN : N.Nodup) (hr : Room k (A.deeper (envOfC qual scope s.heap.objs.size f cd))) :
    Ctl (cxOf (L2N.CX P w) P w K mg base N qual scope f cd A outer s H E) E k :=
  ⟨rfl, hN, passes_of rfl, L2N.takes_of rfl rfl rfl rfl, hr⟩
theorem repE_start {N : List Str} {ds : List D} {vs : List V} {wd : Wd} (r : wd.repL K ds vs) : RepE K wd (ds.map some ++ List.replicate (N.length - ds.length) none) (L2.start N vs) := by
  have hl := r.length
  unfold L2.start
  refine ⟨by rw [List.length_append, List.length_append, List.length_map, List.length_map, List.length_replicate, List.length_replicate, hl], fun i d e => ?_⟩
  by_cases hi : i < ds.length
  · rw [List.getElem?_append_left (by rw [List.length_map]; exact hi), List.getElem?_map] at e
    cases q : ds[i]? with
    | none => rw [q] at e; cases e
    | some d' =>
      rw [q] at e
      cases e
      obtain ⟨v, hv, rv⟩ := r.get q
      refine ⟨v, ?_, rv⟩
      rw [List.getElem?_append_left (by rw [List.length_map, ← hl]; exact hi), List.getElem?_map, hv]; rfl
  · rw [List.getElem?_append_right (by rw [List.length_map]; omega)] at e
    have := List.mem_of_getElem? e
    rw [List.mem_replicate] at this
    cases this.2
theorem fn_mk {x qual : Str} {st : Stmt} {f : Addr} {fd : FuncData} {N ps : List Str} {k : Nat} {fb : En → M Fl} (F : Fun K x qual st f fd) (S : FnScope N ps (defScope st))
    (body : ∀ (E : XK) (cdv : Value) (A : Around) (outer : List PySem.Env) (s : Shared) (H : Hp), Ctl (cxOf (L2N.CX P w) P w K mg base N qual (defScope st) f cdv A outer s H E) E k → DSs (cxOf (L2N.CX P w) P w K mg base N qual (defScope st) f cdv A outer s H E) E (defBody st) fb) :
    FnOk P w K mg base (L2N.CX P w) (k + 1) f fd ps (spM K mg (mkM ps.length N.length fb)) := by
  obtain ⟨oc, od, kV, doc, pm, an, cdv, ct, osl, rfl, lk, hcd⟩ := F.1
  refine fn_of lk hcd S (fun vs H Q E h => ?_) (fun A outer s H vs Q E hr h => ?_)
  · obtain ⟨ds, wd, _, _, r, h⟩ := h
    rw [← r.length]; exact mkM_len h
  · obtain ⟨ds, wd, rfl, ok, r, h⟩ := h
    have hl := mkM_len h
    refine ⟨_, body E cdv A outer s wd.H (ctl_of S.nd hr), ?_⟩
    unfold mkM at h
    rw [if_pos hl, ← hl] at h
    refine ⟨_, wd, rfl, ok, repE_start r, (Fin.bind h).imp fun fl w1 l1 ok1 h1 => ?_⟩
    cases fl with
    | nx ρ => exact fun _ _ => fin_ret ok1 h1 .non .non
    | rt d => exact fun v rv => fin_ret ok1 h1 v rv
    | bk ρ => exact h1.elim
    | ct ρ => exact h1.elim
theorem Def.mk' {x qual : Str} {st : Stmt} {f : Addr} {fd : FuncData} {N ps : List Str} {k : Nat} {fb : En → M Fl} (F : Fun K x qual st f fd) (hm : mg x = some (.ref f)) (S : FnScope N ps (defScope st)) (hb : Binds K fd ps [])
    (body : ∀ (E : XK) (cdv : Value) (A : Around) (outer : List PySem.Env) (s : Shared) (H : Hp), Ctl (cxOf (L2N.CX P w) P w K mg base N qual (defScope st) f cdv A outer s H E) E k → DSs (cxOf (L2N.CX P w) P w K mg base N qual (defScope st) f cdv A outer s H E) E (defBody st) fb) : Def P w K mg base (k + 1) x ps (mkM ps.length N.length fb) :=
  ⟨f, fd, hm, F.kp, hb, fn_mk F S body⟩
/-- nothing is promised -/
theorem Def.zero {x qual : Str} {st : Stmt} {f : Addr} {fd : FuncData} {ps : List Str} (F : Fun K x qual st f fd) (hm : mg x = some (.ref f)) (hb : Binds K fd ps []) : Def P w K mg base 0 x ps (fun _ => stuck) := by
  refine ⟨f, fd, hm, F.kp, hb, ⟨fun vs H Q E h => ?_, fun A outer s H args us vs Q E _ _ _ _ h => ?_⟩⟩
  · obtain ⟨ds, wd, _, _, r, h⟩ := h
    exact h.elim
  · obtain ⟨ds, wd, _, _, r, h⟩ := h
    exact h.elim
end
section
variable {X : Cx} {E : XK} {pos p : Pos} {x : Str} {e : Expr} {es : List Expr} {fa : En → M (List D)} {k j : Nat} {ps : List Str} {m : List D → M D}
theorem de_call (C : Ctl X E k) (F : Def X.prog X.w X.K X.mg X.base j x ps m) (ha : DA X E (e :: es) fa) (hk : j ≤ k := by decide) (hg : Gl X x := by rfl) (hdb : (x == ("__debug__" : Str)) = false := by decide)
    (he : starEach (e :: es) X.env = (false, eval e X.env) :: starEach es X.env := by rfl) (hpl : (backTo pos (starEach es X.env)).any (·.1) = false := by rfl) : DE X E (.Call (.Name x p) (e :: es) [] pos) (eCall fa m) := by
  obtain ⟨f, fd, h1, h2, h3, h4⟩ := F.ex
  refine (pe_call h4 (C.room.mono hk) hg h1 h2 h3 .nil C.pass ha hdb he hpl).imp fun σ H Q ⟨ρ, w, e, ok, re, h⟩ => ?_
  subst e
  refine ⟨ρ, w, rfl, ok, re, (Fin.bind h).imp fun ds w1 l1 ok1 h1 vs rv => ?_⟩
  show spM X.K X.mg m (vs ++ []) w1.H Q E
  rw [List.append_nil]
  exact ⟨ds, w1, rfl, ok1, rv, h1⟩
/-- in a comprehension's block nothing is let out -/
theorem ctl_blk (C : Ctl X E k) (s : Shared) (H : Hp) (scope : Scope) (cenv : PySem.Env) (fp : List Addr) : Ctl (X.blk s H scope cenv fp) E0 k :=
  ⟨C.calm, C.nd, PassesOwn.never, takesN, C.room⟩
theorem ctl_nox (C : Ctl X E k) : Ctl X.nox E0 k := ⟨C.calm, C.nd, PassesOwn.never, takesN, C.room⟩
end
/-! ### the law -/
def scriptD (ns : List Int) : D := .fz (ns.map .int)
theorem repL_script {K : PySem.W.Frag} {w : Wd} : ∀ ns : List Int, w.repL K (ns.map D.int) (ns.map V.int)
  | [] => .nil
  | n :: ns => .cons (.int n) (repL_script ns)
def spLaw (K : PySem.W.Frag) : Sp := fun vs H Q _ => ∃ (a : Addr) (ns : List Int), vs = [.ref a] ∧ SqL K H a (ns.map V.int) ∧ ns.length ≤ 63 ∧ ∀ H', Q (.bl true) H'
/-- all but the code tables -/
def noT (H : Hp) : Hp := fun b => match H b with
  | some (.tbl _) => none
  | o => o
theorem noT_some {H : Hp} {b : Addr} {o : HO} (h : noT H b = some o) : H b = some o ∧ ∀ ps, o ≠ .tbl ps := by
  unfold noT at h
  split at h
  · cases h
  · rename_i h2
    exact ⟨h, fun ps e => h2 ps (by rw [← e]; exact h)⟩
theorem noT_of {H : Hp} {b : Addr} {o : HO} (h : H b = some o) (n : ∀ ps, o ≠ .tbl ps) : noT H b = some o := by
  unfold noT
  split
  · rename_i ps e
    rw [h] at e
    cases e
    exact absurd rfl (n ps)
  · exact h
theorem noT_sq {K : PySem.W.Frag} {H : Hp} {a : Addr} {xs : List V} (q : SqL K H a xs) : SqL K (noT H) a xs := by
  rcases q with (q | ⟨o, q⟩) | q
  · exact .inl (.inl (noT_of q fun _ e => by cases e))
  · exact .inl (.inr ⟨o, noT_of q fun _ e => by cases e⟩)
  · exact .inr q
theorem law_sp {K : PySem.W.Frag} {mg : Str → Option Value} {m : List D → M D} (h : ∀ ns : List Int, ns.length ≤ 63 → ∃ s, m [scriptD ns] [] = .ok (.bl true) s) (vs : List V) (H : Hp) (Q : VK) (E : XK) (z : spLaw K vs H Q E) : spM K mg m vs H Q E := by
  obtain ⟨a, ns, rfl, hS, hl, q⟩ := z
  obtain ⟨s, hs⟩ := h ns hl
  refine ⟨[scriptD ns], ⟨noT H, [], [], [], H⟩, rfl, ⟨fun _ _ e => (noT_some e).1, rfl, fun n a c e => by simp at e, fun n a e => by simp at e, List.nodup_nil, (fun a ha => by cases ha), (fun a ps e => (noT_some e).2 ps rfl), (fun a ha => by cases ha), (fun _ _ _ _ a ha => by cases ha)⟩, .cons (.fz (noT_sq hS) (repL_script ns)) .nil, ?_⟩
  show Fin K mg E _ (m [scriptD ns] []) _
  rw [hs]
  intro w' _ _ _ v r
  cases r; exact q _
theorem cx_false {P : Program} {w : World} {H : Hp} {s : Shared} {e : Value} {s' : Shared} (h : L2N.CX P w [] H s (fun _ _ _ => False) e s') : False := by
  obtain ⟨_, _, _, _, _, _, _, _, _, _, _, _, z⟩ := h
  exact z
/-- walk_of, with what the head says of loose names -/
theorem walk_ofX {l : PySem.W.OpenLaw} {n k : Nat} {q : Program} {loose : List Str} {XP : (Str → Option Value) → Heap → Prop} {YP : World → Heap → Prop} {d : DefRec} {K : Params → PySem.W.Frag} {CX : World → CXT} {sp : World → Sp} {x : Str}
    (hn : l.most = some n) (hn2 : n ≤ sizeLine) (hdf : d.params.defaults = []) (hr : Room k callerA)
    (hY : ∀ (w : World) (h : Heap), YP w h → (K w.params).In h)
    (F : ∀ (w : World) (mg : Str → Option Value) (fa : Addr) (h : Heap), (K w.params).In h → h.Ns mainGlobals mg → mg d.name = some (.ref fa) → XP mg h →
      ∃ fd : FuncData, (∀ (s : Shared) (u : Value), BindsTo s fd ⟨[u], []⟩ [(x, u)]) ∧
        ∀ base : Heap, (K w.params).In base → base.Ns mainGlobals mg → FnOk l.prog w (K w.params) mg base (CX w) k fa fd [x] (sp w))
    (hsp : ∀ (w : World) (H : Hp) (a : Addr) (ns : List Int), ns.length ≤ n → Only H → SqL (K w.params) H a (ns.map V.int) → sp w [.ref a] H (fun v _ => v = .bl true) fun _ _ _ => False)
    (hCX : ∀ (w : World) (H : Hp) (s : Shared) (e : Value) (s' : Shared), CX w [] H s (fun _ _ _ => False) e s' → False) :
    PySem.W.WalkO q loose XP YP l.row.toRowW d [] (fun f vs => PySem.call f vs) := by
  refine Att.attach_call hn hdf fun w s₀ s₁ mg mb fa o pm cd doc a vs ns G Y ho hd hcd hmg hobj hints hlen hg => ?_
  have KX := hY w _ Y
  obtain ⟨fd, hb, hF⟩ := F w mg fa _ KX G.T.g hmg G.X
  exact law_call KX G.T.g G.T.b G.T.builtins G.T.nolimit hg hobj hints (Nat.le_trans hlen hn2) hr hF hb (fun H hO hS => hsp w H a ns hlen hO hS) fun H e s' => hCX w H s₁ e s'
theorem loose_int {p : Program} {lv : List (Str × PySem.W.WData)} {mg : Str → Option Value} {h : Heap} {x : Str} {n : Int} (X : PySem.W.XL p lv mg h) (hx : (x, PySem.W.WData.int n) ∈ lv) : ∃ t, mg x = some (.int n t) := by
  obtain ⟨v, h1, h2⟩ := X.2.val _ hx
  cases h2
  exact ⟨_, h1⟩
end DL

namespace DL
open PySem PySem.Spec PyProof.Rows L2
/-! ## calls that look at cells, and leave all as it was -/
mutual
/-- no cell in it -/
def clD : D → Bool
  | .loc _ => false
  | .tup ds => clDs ds
  | .lst ds => clDs ds
  | .fz ds => clDs ds
  | _ => true
def clDs : List D → Bool
  | [] => true
  | d :: ds => clD d && clDs ds
end
mutual
/-- cells, read through -/
def drf (s : Sto) : D → D
  | .loc n => match s[n]? with
    | some (some (.lst ds)) => .lst ds
    | _ => .loc n
  | .tup ds => .tup (drfs s ds)
  | .lst ds => .lst (drfs s ds)
  | d => d
def drfs (s : Sto) : List D → List D
  | [] => []
  | d :: ds => drf s d :: drfs s ds
end
def sealD (m : List D → M D) : List D → M D := fun ds s => if clDs (drfs s ds) = true then (match m (drfs s ds) [] with
  | .ok d _ => if flatD d = true then .ok d s else .no
  | _ => .no) else .no
section
variable {K : PySem.W.Frag} {I I' : Hp} {L L' : List Addr}
mutual
theorem cl_rep (h : ∀ a o, I a = some o → I' a = some o) : ∀ {d : D} {v : V}, Rep K I L d v → clD d = true → Rep K I' L' d v
  | _, _, .non, _ => .non
  | _, _, .bl b, _ => .bl b
  | _, _, .int i, _ => .int i
  | _, _, .str x, _ => .str x
  | _, _, .tup e r, c => .tup (h _ _ e) (cl_reps h r (by unfold clD at c; exact c))
  | _, _, .lst e r, c => .lst (h _ _ e) (cl_reps h r (by unfold clD at c; exact c))
  | _, _, .fz e r, c => .fz (seqL_mono h e) (cl_reps h r (by unfold clD at c; exact c))
  | _, _, .loc e, c => by unfold clD at c; cases c
  | _, _, .gl e, _ => .gl e
theorem cl_reps (h : ∀ a o, I a = some o → I' a = some o) : ∀ {ds : List D} {vs : List V}, RepL K I L ds vs → clDs ds = true → RepL K I' L' ds vs
  | _, _, .nil, _ => .nil
  | _, _, .cons a b, c => by
    unfold clDs at c
    rw [Bool.and_eq_true] at c
    exact .cons (cl_rep h a c.1) (cl_reps h b c.2)
end
end
/-- a cell that may be read through -/
def FzC (w : Wd) (a : Addr) : Prop := ∃ (n : Nat) (ds : List D), w.L[n]? = some a ∧ w.s[n]? = some (some (Cell.lst ds)) ∧ clDs ds = true
open Classical in
noncomputable def sealI (w : Wd) : Hp := fun a => match w.I a with
  | some o => some o
  | none => if FzC w a then w.H a else none
open Classical in
noncomputable def sealW (w : Wd) : Wd := ⟨sealI w, [], w.Z ++ w.L.filter (fun a => decide (¬ FzC w a ∧ w.I a = none)), [], w.H⟩
section
variable {K : PySem.W.Frag} {w : Wd}
open Classical in
theorem seal_mem {a : Addr} : a ∈ w.L.filter (fun a => decide (¬ FzC w a ∧ w.I a = none)) ↔ a ∈ w.L ∧ ¬ FzC w a ∧ w.I a = none := by
  rw [List.mem_filter, decide_eq_true_eq]
theorem sealI_ext : ∀ a o, w.I a = some o → sealI w a = some o := fun a o e => by
  unfold sealI; rw [e]
theorem sealI_cell {a : Addr} (h : w.I a = none) (f : FzC w a) : sealI w a = w.H a := by
  unfold sealI; rw [h]
  exact if_pos f
theorem seal_ok (ok : w.Ok K) : (sealW w).Ok K := by
  refine ⟨fun a o e => ?_, rfl, fun n a c e => by (have e' : ([] : List Addr)[n]? = some a := e); simp at e', fun n a e => by (have e' : ([] : List Addr)[n]? = some a := e); simp at e', List.nodup_nil, fun a ha => ?_, fun a ps e => ?_, fun a ha o e => ?_, fun n x q e => by (have e' : ([] : Sto)[n]? = some (some (.tab x q)) := e); simp at e'⟩
  · have e' : sealI w a = some o := e
    unfold sealI at e'
    split at e'
    · rename_i u hu
      cases e'
      exact ok.fr a _ hu
    · split at e'
      · exact e'
      · cases e'
  · rcases List.mem_append.mp ha with ha | ha
    · obtain ⟨h1, h2, h3⟩ := ok.zz a ha
      refine ⟨?_, List.not_mem_nil, h3⟩
      show sealI w a = none
      unfold sealI
      rw [h1]
      exact if_neg fun ⟨n, ds, e, _⟩ => h2 (List.mem_of_getElem? e)
    · obtain ⟨h1, h2⟩ := seal_mem.mp ha
      obtain ⟨n, hn⟩ := List.getElem?_of_mem h1
      refine ⟨?_, List.not_mem_nil, ok.there hn⟩
      show sealI w a = none
      unfold sealI
      rw [h2.2]
      exact if_neg h2.1
  · have e' : sealI w a = some (.tbl ps) := e
    unfold sealI at e'
    split at e'
    · rename_i u hu
      cases e'
      exact ok.nt a ps hu
    · split at e'
      · rename_i hf
        obtain ⟨n, ds, h1, h2, _⟩ := hf
        obtain ⟨_, xs, h3, _⟩ := ok.cell n a _ h1 h2
        rw [h3] at e'
        cases e'
      · cases e'
  · rcases List.mem_append.mp ha with ha | ha
    · exact ok.zo a ha o e
    · obtain ⟨h1, h2⟩ := seal_mem.mp ha
      obtain ⟨n, hn⟩ := List.getElem?_of_mem h1
      have hlt : n < w.s.length := by rw [← ok.len]; exact (List.getElem?_eq_some_iff.mp hn).1
      have es : w.s[n]? = some w.s[n] := List.getElem?_eq_getElem hlt
      cases q : w.s[n] with
      | some c => rw [q] at es; exact (ok.cell n a c hn es).2.form e
      | none => rw [q] at es; exact absurd h2.2 (ok.dead n a hn es)
mutual
theorem seal_rep (ok : w.Ok K) : ∀ {d : D} {v : V}, Rep K w.I w.L d v → clD (drf w.s d) = true → Rep K (sealI w) [] (drf w.s d) v
  | _, _, .non, _ => .non
  | _, _, .bl b, _ => .bl b
  | _, _, .int i, _ => .int i
  | _, _, .str x, _ => .str x
  | _, _, .gl e, _ => by unfold drf; exact .gl e
  | _, _, .tup e r, c => by
    unfold drf at c ⊢
    unfold clD at c
    exact .tup (sealI_ext _ _ e) (seal_reps ok r c)
  | _, _, .lst e r, c => by
    unfold drf at c ⊢
    unfold clD at c
    exact .lst (sealI_ext _ _ e) (seal_reps ok r c)
  | _, _, .fz e r, c => by
    unfold drf at c ⊢
    exact cl_rep sealI_ext (.fz e r) c
  | _, _, .loc (n := n) (a := a) e, c => by
    unfold drf at c ⊢
    split at c
    · rename_i ds hs
      unfold clD at c
      obtain ⟨h1, xs, h2, h3⟩ := ok.cell n a _ e hs
      exact .lst ((sealI_cell (h1 rfl) ⟨n, ds, e, hs, c⟩).trans h2) (cl_reps sealI_ext h3 c)
    · unfold clD at c; cases c
theorem seal_reps (ok : w.Ok K) : ∀ {ds : List D} {vs : List V}, RepL K w.I w.L ds vs → clDs (drfs w.s ds) = true → RepL K (sealI w) [] (drfs w.s ds) vs
  | _, _, .nil, _ => by unfold drfs; exact .nil
  | _, _, .cons a b, c => by
    unfold drfs at c ⊢
    unfold clDs at c
    rw [Bool.and_eq_true] at c
    exact .cons (seal_rep ok a c.1) (seal_reps ok b c.2)
end
theorem seal_back (ok : w.Ok K) {w2 : Wd} (l : (sealW w).le w2) (ok2 : w2.Ok K) : w.le ⟨w.I, w.L, w.Z, w.s, w2.H⟩ ∧ (⟨w.I, w.L, w.Z, w.s, w2.H⟩ : Wd).Ok K := by
  have hz : ∀ a ∈ w.Z, w2.H a = w.H a := fun a ha => l.zh a (List.mem_append_left _ ha)
  have hL : ∀ a ∈ w.L, w2.H a = w.H a := fun a ha => by
    by_cases hi : w.I a = none
    · by_cases hf : FzC w a
      · obtain ⟨n, hn⟩ := List.getElem?_of_mem ha
        obtain ⟨o, ho⟩ := ok.there hn
        have e1 : sealI w a = some o := (sealI_cell hi hf).trans ho
        rw [ok2.fr a o (l.i a o e1), ho]
      · exact l.zh a (List.mem_append_right _ (seal_mem.mpr ⟨ha, hf, hi⟩))
    · obtain ⟨o, ho⟩ := Option.ne_none_iff_exists'.mp hi
      rw [ok2.fr a o (l.i a o (sealI_ext a o ho)), ok.fr a o ho]
  refine ⟨⟨fun _ _ e => e, List.prefix_rfl, rfl, hz⟩, ⟨fun a o e => ok2.fr a o (l.i a o (sealI_ext a o e)), ok.len, fun n a c e1 e2 => ?_, ok.dead, ok.inj, fun a ha => ?_, ok.nt, fun a ha o e => ok.zo a ha o ((hz a ha).symm.trans e), fun n x q e a ha ps z => ok.zt n x q e a ha ps ((hz a ha).symm.trans z)⟩⟩
  · obtain ⟨c1, c2⟩ := ok.cell n a c e1 e2
    exact ⟨c1, c2.mono (fun _ _ e => e) List.prefix_rfl (hL a (List.mem_of_getElem? e1)).symm⟩
  · obtain ⟨h1, h2, o, h3⟩ := ok.zz a ha
    exact ⟨h1, h2, o, (hz a ha).trans h3⟩
theorem flat_rep {I' : Hp} {L' : List Addr} {d : D} {v : V} {I : Hp} {L : List Addr} (r : Rep K I L d v) (h : flatD d = true) : Rep K I' L' d v := by
  cases r with
  | non => exact .non
  | bl b => exact .bl b
  | int i => exact .int i
  | str x => exact .str x
  | tup _ _ => cases h
  | lst _ _ => cases h
  | fz _ _ => cases h
  | gl _ => cases h
  | loc _ => cases h
end
mutual
theorem cl_of_lay : ∀ d : D, d.py.canLay0 = true → clD d = true
  | .non, _ => by unfold clD; rfl
  | .bl _, _ => by unfold clD; rfl
  | .int _, _ => by unfold clD; rfl
  | .str _, _ => by unfold clD; rfl
  | .tup ds, h => by
    unfold D.py PyData.canLay0 at h
    unfold clD
    exact cls_of_lay ds h
  | .lst ds, h => by
    unfold D.py PyData.canLay0 at h
    unfold clD
    exact cls_of_lay ds h
  | .fz _, h => by unfold D.py PyData.canLay0 at h; cases h
  | .loc _, h => by unfold D.py PyData.canLay0 at h; cases h
theorem cls_of_lay : ∀ ds : List D, PyData.canLayAll0 (D.pys ds) = true → clDs ds = true
  | [], _ => by unfold clDs; rfl
  | d :: ds, h => by
    unfold D.pys PyData.canLayAll0 at h
    rw [Bool.and_eq_true] at h
    unfold clDs
    rw [cl_of_lay d h.1, cls_of_lay ds h.2]; rfl
end
/-- equality that reads cells through, however deep -/
def eqDD (x y : D) : M D := fun s => if (okD (drf s x) && okD (drf s y)) = true then .ok (.bl (eqv (drf s x) (drf s y))) s else .no
def neDD (x y : D) : M D := fun s => if (okD (drf s x) && okD (drf s y)) = true then .ok (.bl (!eqv (drf s x) (drf s y))) s else .no
section
variable {K : PySem.W.Frag} {w : Wd} {mg : Str → Option Value} {E : XK} {X : Cx} {k : Nat}
theorem drf_dp (ok : w.Ok K) {d : D} {v : V} (r : w.rep K d v) (h : okD (drf w.s d) = true) : Dp K w.H v (drf w.s d).py :=
  have hc : (drf w.s d).py.canLay0 = true := SeqAt.canLay_of_shaped h
  rep_dp (w := sealW w) (seal_ok ok) _ v (seal_rep ok r (cl_of_lay _ hc)) hc
theorem od_eqD : OpD K mg E (rEqD K) eqDD := fun x y v u w Q ok rx ry q => by
  unfold eqDD at q
  split at q
  · rename_i h
    rw [Bool.and_eq_true] at h
    exact ⟨_, _, drf_dp ok rx h.1, drf_dp ok ry h.2, h.1, h.2, q w (Wd.le.refl w) ok rfl _ (.bl _)⟩
  · exact q.elim
theorem od_neD : OpD K mg E (rNeD K) neDD := fun x y v u w Q ok rx ry q => by
  unfold neDD at q
  split at q
  · rename_i h
    rw [Bool.and_eq_true] at h
    exact ⟨_, _, drf_dp ok rx h.1, drf_dp ok ry h.2, h.1, h.2, q w (Wd.le.refl w) ok rfl _ (.bl _)⟩
  · exact q.elim
theorem c_eqD (C : Ctl X E k) : CmpD X E .Eq eqDD := ⟨_, op_eqD C.room.units, od_eqD⟩
theorem c_neD (C : Ctl X E k) : CmpD X E .NotEq neDD := ⟨_, op_neD C.room.units, od_neD⟩
end
section
variable {X : Cx} {E : XK} {pos p : Pos} {x : Str} {e : Expr} {es : List Expr} {fa : En → M (List D)} {k j : Nat} {ps : List Str} {m : List D → M D}
theorem de_seal (C : Ctl X E k) (F : Def X.prog X.w X.K X.mg X.base j x ps m) (ha : DA X E (e :: es) fa) (hk : j ≤ k := by decide) (hg : Gl X x := by rfl) (hdb : (x == ("__debug__" : Str)) = false := by decide)
    (he : starEach (e :: es) X.env = (false, eval e X.env) :: starEach es X.env := by rfl) (hpl : (backTo pos (starEach es X.env)).any (·.1) = false := by rfl) : DE X E (.Call (.Name x p) (e :: es) [] pos) (eCall fa (sealD m)) := by
  obtain ⟨f, fd, h1, h2, h3, h4⟩ := F.ex
  refine (pe_call h4 (C.room.mono hk) hg h1 h2 h3 .nil C.pass ha hdb he hpl).imp fun σ H Q ⟨ρ, w, e, ok, re, h⟩ => ?_
  subst e
  refine ⟨ρ, w, rfl, ok, re, (Fin.bind h).imp fun ds w1 l1 ok1 h1 vs rv => ?_⟩
  show spM X.K X.mg m (vs ++ []) w1.H Q E
  rw [List.append_nil]
  unfold sealD at h1
  split at h1
  · rename_i hc
    refine ⟨drfs w1.s ds, sealW w1, rfl, seal_ok ok1, seal_reps ok1 rv hc, ?_⟩
    show Fin X.K X.mg E (sealW w1) (m (drfs w1.s ds) []) _
    cases hm : m (drfs w1.s ds) [] with
    | ok d s' =>
      rw [hm] at h1
      dsimp only at h1
      split at h1
      · rename_i hf
        intro w2 l2 ok2 es v rd
        obtain ⟨l3, ok3⟩ := seal_back ok1 l2 ok2
        exact h1 _ l3 ok3 rfl v (flat_rep rd hf)
      · exact h1.elim
    | er c s' => rw [hm] at h1; exact h1.elim
    | no => rw [hm] at h1; exact h1.elim
  · exact h1.elim
end
/-! ## sorted -/
def isort (ns : List Int) : List Int := ns.mergeSort fun a b => decide (a ≤ b)
theorem isort_perm (ns : List Int) : (isort ns).Perm ns := List.mergeSort_perm _ _
theorem isort_pair (ns : List Int) : (isort ns).Pairwise (· ≤ ·) := by
  have h := List.pairwise_mergeSort (le := fun a b : Int => decide (a ≤ b)) (fun a b c h1 h2 => decide_eq_true (Int.le_trans (of_decide_eq_true h1) (of_decide_eq_true h2)))
    (fun a b => by
      rcases Int.le_total a b with h | h
      · rw [decide_eq_true h]; rfl
      · rw [decide_eq_true h, Bool.or_true]) ns
  exact h.imp fun h => of_decide_eq_true h
theorem isort_eq {ns ms : List Int} (p : ms.Perm ns) (h : ms.Pairwise (· ≤ ·)) : isort ns = ms :=
  List.Perm.eq_of_pairwise (fun _ _ _ _ h1 h2 => Int.le_antisymm h1 h2) (isort_pair ns) h ((isort_perm ns).trans p.symm)
def sortD (a : D) : M D := fun s => match viewL s a with
  | some ds => match intsD ds with | some ns => mkLst ((isort ns).map D.int) s | none => .no
  | none => .no
section
variable {X : Cx} {E : XK} {pos p : Pos} {e : Expr} {f : En → M D} {k : Nat}
theorem repL_intsB {K : PySem.W.Frag} {w : Wd} : ∀ ns : List Int, w.repL K (ns.map D.int) (ns.map V.int)
  | [] => .nil
  | n :: ns => .cons (.int n) (repL_intsB ns)
theorem de_sorted (C : Ctl X E k) (hm : X.mg "sorted" = none) (ha : DE X E e f) (hg : Gl X "sorted" := by rfl) (he : starEach [e] X.env = (false, eval e X.env) :: starEach [] X.env := by rfl) : DE X E (.Call (.Name "sorted" p) [e] [] pos) (eCall (aCons f aNil) (on1 sortD)) :=
  de_callB cr_sortedI (cd1 fun a v w Q ok ra q => by
    unfold sortD at q
    split at q
    · rename_i ds h
      split at q
      · rename_i ns hn
        obtain ⟨p, ys, rfl, hs, r⟩ := rep_lst ok ra h
        have e := repL_ints r hn
        subst e
        refine ⟨p, ns, rfl, SqL.of hs, fun ns' p' h1 h2 h3 => ?_⟩
        rw [isort_eq h1 h2] at q
        exact (fin_lst ok (repL_intsB ns') q).2 p' h3
      · exact q.elim
    · exact q.elim) hm (by decide +kernel) (da_cons ha da_nil he) hg (by decide) (by decide) he
end
/-! ## longer chains of comparisons, as tests -/
structure PCh (X : Cx) (E : XK) (ops : List CmpOp) (bs : List Expr) (m : D → En → M Bool) : Prop where
  run : ∀ (pos : Pos) (pins : List (Addr × Obj)) (s : Shared) (σ : L2.St) (Q : Bool → Hp → Prop) (d : D) (x : V) (v : Value) (ρ : En) (w : Wd), Inv X pins σ w.H s → RelV x v → w.Ok X.K → w.rep X.K d x → RepE X.K w ρ σ →
    Fin X.K X.mg E w (m d ρ w.s) (fun b w' => Q b w'.H) → wpAny (model X.prog X.w) X.A (testChain pos v ops (evalEach bs X.env)) (TP X pins σ Q) X.xe s
def chL (g : D → D → M D) (f : En → M D) : D → En → M Bool := fun x ρ => bnd (f ρ) fun y => bnd (g x y) asB
def chC (g : D → D → M D) (f : En → M D) (r : D → En → M Bool) : D → En → M Bool := fun x ρ => bnd (f ρ) fun y => bnd (g x y) fun z => bnd (asB z) fun k => br k (r y ρ) (ret false)
def chT (f : En → M D) (r : D → En → M Bool) : En → M Bool := fun ρ => bnd (f ρ) fun x => r x ρ
section
variable {X : Cx} {E : XK} {op op' : CmpOp} {ops : List CmpOp} {a b b' : Expr} {bs : List Expr} {g : D → D → M D} {f : En → M D} {r : D → En → M Bool} {pos : Pos}
theorem pch_last (ho : CmpD X E op g) (hb : DE X E b f) : PCh X E [op] [b] (chL g f) := ⟨fun pos pins s σ Q d x v ρ w I rx ok rd re h => by
  obtain ⟨r0, ho, hr⟩ := ho
  refine test_last (thn (hb.run pins s σ w.H (fun y H' => r0 x y H' fun z H2 => ∃ k, z = .bl k ∧ Q k H2) I ⟨ρ, w, rfl, ok, re, (Fin.bind h).imp fun dy w1 l1 ok1 h1 y ry => ?_⟩) fun u s1 ⟨y, H1, I1, r1, q1⟩ =>
    thn (ho pins s1 σ H1 x y v u _ I1 rx r1 q1) fun c s3 ⟨z, H3, I3, r3, k, e, q3⟩ => ?_)
  · exact hr d dy x y w1 _ ok1 (rd.le l1) ry ((Fin.bind h1).imp fun dz w2 l2 ok2 h2 z rz => asB_fin ok2 rz h2)
  · subst e
    cases r3
    exact wpAny_truthy_bool ⟨H3, I3, q3⟩⟩
theorem pch_cons (ho : CmpD X E op g) (hb : DE X E b f) (hn : PCh X E (op' :: ops) (b' :: bs) r) : PCh X E (op :: op' :: ops) (b :: b' :: bs) (chC g f r) := ⟨fun pos pins s σ Q d x v ρ w I rx ok rd re h => by
  obtain ⟨r0, ho, hr⟩ := ho
  refine test_link (thn (hb.run pins s σ w.H (fun y H' => r0 x y H' fun z H2 => ∃ k, z = .bl k ∧ ∃ (dy : D) (w2 : Wd), w2.H = H2 ∧ w.le w2 ∧ w2.Ok X.K ∧ w2.rep X.K dy y ∧ Fin X.K X.mg E w2 (br k (r dy ρ) (ret false) w2.s) fun b w' => Q b w'.H) I
    ⟨ρ, w, rfl, ok, re, (Fin.bind h).imp fun dy w1 l1 ok1 h1 y ry => ?_⟩) fun u s1 ⟨y, H1, I1, r1, q1⟩ =>
    thn (ho pins s1 σ H1 x y v u _ I1 rx r1 q1) fun c s3 ⟨z, H3, I3, r3, k, e, dy, w2, eH, l2, ok2, ry, q3⟩ => ?_)
  · refine hr d dy x y w1 _ ok1 (rd.le l1) ry ((Fin.bind h1).imp fun dz w2 l2 ok2 h2 z rz => ?_)
    obtain ⟨k, e, q⟩ := asB_fin ok2 rz (Fin.bind h2)
    exact ⟨k, e, dy, w2, rfl, l1.trans l2, ok2, ry.le l2, q⟩
  · subst e
    cases r3
    subst eH
    refine wpAny_truthy_bool ?_
    cases k with
    | false => exact ite_ff ⟨w2.H, I3, fin_ret (mg := X.mg) (E := E) ok2 q3⟩
    | true => exact ite_tt (hn.run pos pins s3 σ Q dy y u ρ w2 I3 r1 ok2 ry (re.le l2) q3)⟩
theorem dt_chN {op1 op2 : CmpOp} {b1 b2 : Expr} (ha : DE X E a f) (hn : PCh X E (op1 :: op2 :: ops) (b1 :: b2 :: bs) r) (hm : lastMarks (op1 :: op2 :: ops) (b1 :: b2 :: bs) = false := by with_unfolding_all rfl) :
    DT X E (.Compare a (op1 :: op2 :: ops) (b1 :: b2 :: bs) pos) (chT f r) := ⟨fun pins s σ H Q I ⟨ρ, w, e, ok, re, h⟩ => by
  subst e
  refine isTrue_chain (thn (ha.run pins s σ w.H (fun x H' => ∃ (d : D) (w1 : Wd), w1.H = H' ∧ w.le w1 ∧ w1.Ok X.K ∧ w1.rep X.K d x ∧ Fin X.K X.mg E w1 (r d ρ w1.s) fun b w' => Q b w'.H) I
    ⟨ρ, w, rfl, ok, re, (Fin.bind h).imp fun d w1 l1 ok1 h1 x rx => ⟨d, w1, rfl, l1, ok1, rx, h1⟩⟩) fun v s1 ⟨x, H1, I1, r1, d, w1, e, l1, ok1, rx, q⟩ => ?_) hm
  subst e
  exact hn.run pos pins s1 σ Q d x v ρ w1 I1 r1 ok1 rx (re.le l1) q⟩
end
end DL

namespace DL
open PySem PySem.Spec PyProof.Rows L2
/-! ## defs with keyword-only parameters -/
structure DefK (P : Program) (w : World) (K : PySem.W.Frag) (mg : Str → Option Value) (base : Heap) (k : Nat) (x : Str) (n : Nat) (ps : List Str) (dv : List V) (ks : List Str) (m : List D → M D) : Prop where
  ex : ∃ (f : Addr) (fd : FuncData), mg x = some (.ref f) ∧ PySem.W.keepIn K (.ref f) = true ∧ (∃ us, Vals dv us ∧ Binds K fd ps us) ∧ KBn K fd ps n ks (fun us ws => us ++ ws) (fun vs zs => vs ++ zs) ∧ FnOk P w K mg base (L2N.CX P w) k f fd ps (spM K mg m)
/-- the defaults fill up -/
def dfl (dd : List D) (m : List D → M D) : List D → M D := fun ds => m (ds ++ dd)
def eCallK (n l : Nat) (fa fk : En → M (List D)) (m : List D → M D) : En → M D := fun ρ => bnd (fa ρ) fun ds => bnd (fk ρ) fun zs => if (ds.length == n && zs.length == l) = true then m (ds ++ zs) else stuck
section
variable {X : Cx} {E : XK} {pos p kpos : Pos} {x : Str} {e : Expr} {es : List Expr} {kws : List Keyword} {nm : Option Str} {f : En → M D} {fa fk : En → M (List D)} {k j n : Nat} {ps ks : List Str} {dv : List V} {m : List D → M D}
theorem dk_nil : PK X [] (tDA X.K X.mg E aNil) := ⟨fun pos pins s σ H Q I ⟨ρ, w, e, ok, re, h⟩ => pk_nil.run pos pins s σ H Q I (by
  subst e
  exact h w (Wd.le.refl _) ok rfl _ .nil)⟩
theorem dk_cons (ha : DE X E e f) (hr : PK X kws (tDA X.K X.mg E fa)) : PK X (⟨nm, e, kpos⟩ :: kws) (tDA X.K X.mg E (aCons f fa)) := ⟨fun pos pins s σ H Q I ⟨ρ, w, e, ok, re, h⟩ => (pk_cons ha hr).run pos pins s σ H Q I (by
  subst e
  refine ⟨ρ, w, rfl, ok, re, (Fin.bind h).imp fun x w1 l1 ok1 h1 v rv => ?_⟩
  refine ⟨ρ, w1, rfl, ok1, re.le l1, (Fin.bind h1).imp fun xs w2 l2 ok2 h2 vs rvs => ?_⟩
  exact h2 w2 (Wd.le.refl _) ok2 rfl _ (.cons (rv.le l2) rvs))⟩
theorem de_callD (dd : List D) (C : Ctl X E k) (F : DefK X.prog X.w X.K X.mg X.base j x n ps dv ks m) (ha : DA X E (e :: es) fa) (hd : ∀ w : Wd, w.repL X.K dd dv) (hk : j ≤ k := by decide) (hg : Gl X x := by rfl) (hdb : (x == ("__debug__" : Str)) = false := by decide)
    (he : starEach (e :: es) X.env = (false, eval e X.env) :: starEach es X.env := by rfl) (hpl : (backTo pos (starEach es X.env)).any (·.1) = false := by rfl) : DE X E (.Call (.Name x p) (e :: es) [] pos) (eCall fa (dfl dd m)) := by
  obtain ⟨f, fd, h1, h2, ⟨us, hv, h3⟩, _, h4⟩ := F.ex
  refine (pe_call h4 (C.room.mono hk) hg h1 h2 h3 hv C.pass ha hdb he hpl).imp fun σ H Q ⟨ρ, w, e, ok, re, h⟩ => ?_
  subst e
  refine ⟨ρ, w, rfl, ok, re, (Fin.bind h).imp fun ds w1 l1 ok1 h1 vs rv => ?_⟩
  exact ⟨ds ++ dd, w1, rfl, ok1, rv.append (hd w1), h1⟩
theorem de_callKw (C : Ctl X E k) (F : DefK X.prog X.w X.K X.mg X.base j x n ps dv ks m) (ha : DA X E (e :: es) fa) (hkw : PK X kws (tDA X.K X.mg E fk)) (hk : j ≤ k := by decide) (hg : Gl X x := by rfl)
    (hall : (backToKw pos (keywordEach kws X.env)).all (·.1.isSome) = true := by rfl) (hks : (backToKw pos (keywordEach kws X.env)).filterMap (·.1) = ks := by rfl)
    (hdb : (x == ("__debug__" : Str)) = false := by decide) (he : starEach (e :: es) X.env = (false, eval e X.env) :: starEach es X.env := by rfl)
    (hpl : ((backTo pos (starEach (e :: es) X.env)).any (·.1) || (backToKw pos (keywordEach kws X.env)).any (·.1.isNone)) = false := by rfl) : DE X E (.Call (.Name x p) (e :: es) kws pos) (eCallK n ks.length fa fk m) := by
  obtain ⟨f, fd, h1, h2, _, h3, h4⟩ := F.ex
  refine (pe_callN h4 (C.room.mono hk) hg h1 h2 h3 C.pass ha hkw hall hks hdb he hpl).imp fun σ H Q ⟨ρ, w, e, ok, re, h⟩ => ?_
  subst e
  refine ⟨ρ, w, rfl, ok, re, (Fin.bind h).imp fun ds w1 l1 ok1 h1 vs rv => ?_⟩
  refine ⟨ρ, w1, rfl, ok1, re.le l1, (Fin.bind h1).imp fun zs w2 l2 ok2 h2 us ru => ?_⟩
  split at h2
  · rename_i hc
    rw [Bool.and_eq_true, beq_iff_eq, beq_iff_eq] at hc
    exact ⟨by rw [← rv.length]; exact hc.1, by rw [← ru.length]; exact hc.2, ds ++ zs, w2, rfl, ok2, (rv.le l2).append ru, h2⟩
  · exact h2.elim
end
/-! ## defs with a star parameter -/
structure DefR (P : Program) (w : World) (K : PySem.W.Frag) (mg : Str → Option Value) (base : Heap) (k : Nat) (x : Str) (m : List D → M D) : Prop where
  ex : ∃ f : Addr, mg x = some (.ref f) ∧ PySem.W.keepIn K (.ref f) = true ∧ FnR P w K mg base (L2N.CX P w) k f (spM K mg m)
/-- what is left over becomes a tuple -/
def starM (np : Nat) (m : List D → M D) : List D → M D := fun ds => if (decide (np ≤ ds.length) && szOk ds.length) = true then m (ds.take np ++ [.tup (ds.drop np)]) else stuck
section
variable {P : Program} {w : World} {K : PySem.W.Frag} {mg : Str → Option Value} {base : Heap}
theorem DefR.mk' {x qual pv : Str} {st : Stmt} {f : Addr} {fd : FuncData} {N ps : List Str} {k : Nat} {fb : En → M Fl} (F : Fun K x qual st f fd) (hm : mg x = some (.ref f)) (S : FnScope N (ps ++ [pv]) (defScope st))
    (hb : ∀ (kV doc pm : Value) (an : Option Addr) (cdv ct : Value) (us rest : List Value), us.length = ps.length → bindArgs (PySem.W.fnOf x qual (defArgs st) (defBody st) (defScope st) .none kV doc pm an cdv ct) ⟨us ++ rest, []⟩ = (newTuple rest >>= fun t => pure (ps.zip us ++ [(pv, t)])))
    (body : ∀ (E : XK) (cdv : Value) (A : Around) (outer : List PySem.Env) (s : Shared) (H : Hp), Ctl (cxOf (L2N.CX P w) P w K mg base N qual (defScope st) f cdv A outer s H E) E k → DSs (cxOf (L2N.CX P w) P w K mg base N qual (defScope st) f cdv A outer s H E) E (defBody st) fb) :
    DefR P w K mg base (k + 1) x (starM ps.length (mkM (ps.length + 1) N.length fb)) := by
  obtain ⟨⟨oc, od, kV, doc, pm, an, cdv, ct, osl, e, lk, hcd⟩, kp⟩ := F
  refine ⟨f, hm, kp, (StX.fn_star (sp := spM K mg (mkM (ps.length + 1) N.length fb)) (by rw [← e]; exact lk) hcd S cxUpN (hb kV doc pm an cdv ct) fun A outer s H vs Q E hr h => ?_).imp fun vs H Q E h => ?_⟩
  · obtain ⟨ds, wd, rfl, ok, r, h⟩ := h
    have hl := mkM_len h
    refine ⟨_, body E cdv A outer s wd.H (ctl_of S.nd hr), ?_⟩
    unfold mkM at h
    rw [if_pos hl, ← hl] at h
    refine ⟨_, wd, rfl, ok, repE_start r, (Fin.bind h).imp fun fl w1 l1 ok1 h1 => ?_⟩
    cases fl with
    | nx ρ => exact fun _ _ => fin_ret ok1 h1 .non .non
    | rt d => exact fun v rv => fin_ret ok1 h1 v rv
    | bk ρ => exact h1.elim
    | ct ρ => exact h1.elim
  · obtain ⟨ds, wd, rfl, ok, r, h⟩ := h
    unfold starM at h
    split at h
    · rename_i hc
      rw [Bool.and_eq_true] at hc
      have hn := of_decide_eq_true hc.1
      have hz := szOk_le hc.2
      have hl := r.length
      refine ⟨vs.take ps.length, vs.drop ps.length, (List.take_append_drop _ _).symm, by rw [List.length_take]; omega, by rw [List.length_drop]; omega, fun p hp => ?_⟩
      obtain ⟨ok', l'⟩ := ok.newI hp (.tup (vs.drop ps.length))
      refine ⟨ds.take ps.length ++ [.tup (ds.drop ps.length)], _, rfl, ok', ?_, Fin.up h l'⟩
      exact ((r.take _).le l').append (.cons (.tup upd_same ((r.drop _).le l')) .nil)
    · exact h.elim
end
section
variable {X : Cx} {E : XK} {pos p spos : Pos} {x : Str} {e : Expr} {es : List Expr} {fa : En → M (List D)} {f : En → M D} {k j : Nat} {m : List D → M D}
theorem de_callR (C : Ctl X E k) (F : DefR X.prog X.w X.K X.mg X.base j x m) (ha : DA X E (e :: es) fa) (hk : j ≤ k := by decide) (hg : Gl X x := by rfl) (hdb : (x == ("__debug__" : Str)) = false := by decide)
    (he : starEach (e :: es) X.env = (false, eval e X.env) :: starEach es X.env := by rfl) (hpl : (backTo pos (starEach es X.env)).any (·.1) = false := by rfl) : DE X E (.Call (.Name x p) (e :: es) [] pos) (eCall fa m) := by
  obtain ⟨f, h1, h2, h4⟩ := F.ex
  refine ⟨fun pins s σ H Q I ⟨ρ, w, e0, ok, re, h⟩ => ?_⟩
  subst e0
  refine wpAny_Call_Name_kw (ld_glob I hg h1 ?_ hdb)
  refine PySem.W.callWith_K (h₀ := X.base) I.ok.mod.kin h2 (thn (ha.run pos pins s σ w.H (fun vs H1 => spM X.K X.mg m vs H1 Q E) I ⟨ρ, w, rfl, ok, re, (Fin.bind h).imp fun ds w1 l1 ok1 h1 vs rv => ⟨ds, w1, rfl, ok1, rv, h1⟩⟩) fun us s1 ⟨vs, H1, I1, r, q⟩ => ⟨I1.kIn, ?_⟩) he hpl
  exact wpAny_call (run_fnR h4 (C.room.mono hk) C.pass I1 r q)
/-- x(*y) -/
def eCallS (f : En → M D) (m : List D → M D) : En → M D := fun ρ => bnd (f ρ) fun d => match d with
  | .tup ds => m ds
  | .lst ds => m ds
  | _ => stuck
theorem de_callS1 (C : Ctl X E k) (F : DefR X.prog X.w X.K X.mg X.base j x m) (he : DE X E e f) (hk : j ≤ k := by decide) (hg : Gl X x := by rfl) (hdb : (x == ("__debug__" : Str)) = false := by decide)
    (hst : starEach [.Starred e spos] X.env = [(true, eval e X.env)] := by rfl) : DE X E (.Call (.Name x p) [.Starred e spos] [] pos) (eCallS f m) := by
  obtain ⟨g, h1, h2, h4⟩ := F.ex
  refine (StX.pe_callS1 h4 (C.room.mono hk) h2 hg h1 C.pass he hdb hst).imp fun σ H Q ⟨ρ, w, e0, ok, re, h⟩ => ?_
  subst e0
  refine ⟨ρ, w, rfl, ok, re, (Fin.bind h).imp fun d w1 l1 ok1 h1 v rv => ?_⟩
  cases d with
  | tup ds =>
    cases rv with
    | tup ea r => exact ⟨_, _, rfl, .inl (SqT.of (ok1.fr _ _ ea)), ds, w1, rfl, ok1, r, h1⟩
  | lst ds =>
    cases rv with
    | lst ea r => exact ⟨_, _, rfl, .inr (SqL.of (ok1.fr _ _ ea)), ds, w1, rfl, ok1, r, h1⟩
  | non => exact h1.elim
  | gl _ => exact h1.elim
  | bl _ => exact h1.elim
  | int _ => exact h1.elim
  | str _ => exact h1.elim
  | fz _ => exact h1.elim
  | loc _ => exact h1.elim
end
end DL

namespace DL
open PySem PySem.Spec PyProof.Rows L2
/-! ## comprehensions with two fors -/
def ob2 (vs : List Nat) (g : D → En → M En) (t : En → M Bool) (fi1 : En → M (List D)) (ρ : En) (d : D) : M (Option (En × List D)) := noEr (bnd (g d (wipeD ρ vs)) fun ρ' => bnd (t ρ') fun b => br b (bnd (fi1 ρ') fun ds1 => ret (some (ρ', ds1))) (ret none))
def inL (body : D → M (Option D)) : List D → List D → M (List D)
  | [], acc => ret acc
  | d :: ds, acc => bnd (body d) fun o => match o with
    | none => inL body ds acc
    | some y => if szOk (acc.length + 1) = true then inL body ds (acc ++ [y]) else stuck
def outL (ob : D → M (Option (En × List D))) (ib : En → D → M (Option D)) : List D → List D → M (List D)
  | [], acc => ret acc
  | d :: ds, acc => bnd (ob d) fun o => match o with
    | none => outL ob ib ds acc
    | some p => bnd (inL (ib p.1) p.2 acc) fun acc' => outL ob ib ds acc'
def eLc2 (vs vs1 : List Nat) (fi : En → M (List D)) (g : D → En → M En) (t : En → M Bool) (fi1 : En → M (List D)) (g1 : D → En → M En) (t1 : En → M Bool) (f : En → M D) : En → M D := fun ρ => bnd (fi ρ) fun ds => bnd (outL (ob2 vs g t fi1 ρ) (fun ρ' d => lcB vs1 g1 t1 f ρ' d) ds []) fun ys => ret (.lst ys)
theorem noEr_fin2 {K : PySem.W.Frag} {mg : Str → Option Value} {E : XK} {α : Type} {m m' : M α} {w : Wd} {Q : α → Wd → Prop} (e : m' = noEr m) (h : Fin K mg E w (m' w.s) Q) : Fin K mg E w (m w.s) Q := by
  subst e
  exact noEr_fin h
theorem bind_assoc3 {α β γ : Type} (r : R α) (k : α → M β) (l : β → M γ) : (r.bind k).bind l = r.bind fun a s => (k a s).bind l := by cases r <;> rfl
section
variable {X : Cx} {E : XK} {pos : Pos} {elt tgE iter tgE1 iter1 : Expr} {ifs ifs1 : List Expr} {scope : Scope} {fi fi1 : En → M (List D)} {t t1 : En → M Bool} {f : En → M D} {k : Nat}
theorem lc2_run (tg tg1 : Tg) (vs vs1 : List Nat) (hv : ∀ i ∈ tg.ix, i ∈ vs) (hv1 : ∀ i ∈ tg1.ix, i ∈ vs1) {σ : L2.St} {H : Hp} {Q : VK} (h : tD X.K X.mg E (eLc2 vs vs1 fi tg.d t fi1 tg1.d t1 f) σ H Q) :
    tLc2 (tDI X.K X.mg E fi) (tg.raw X.K) (tDT X.K X.mg E0 t) (tDI X.K X.mg E0 fi1) (tg1.raw X.K) (tDT X.K X.mg E0 t1) (tD X.K X.mg E0 f) vs vs1 σ H Q := by
  obtain ⟨ρ, w, e, ok, re, h⟩ := h
  subst e
  refine ⟨ρ, w, rfl, ok, re, (Fin.bind h).imp fun ds w1 l1 ok1 h1 J hJ Dl hD => ?_⟩
  obtain ⟨okz, hDZ⟩ := ok1.newZ (o := .lst []) hD
  have re1 := (re.le l1).wipe vs
  generalize hob : ob2 vs tg.d t fi1 ρ = ob at h1
  generalize hib : (fun ρ' d => lcB vs1 tg1.d t1 f ρ' d) = ib at h1
  -- how it stands
  let St : (M (List D)) → Wd → Prop := fun rest w => w1.le0 w ∧ w1.le (w.setZ w1.Z) ∧ w.Z = Dl :: w1.Z ∧ w.Ok X.K ∧ Fin X.K X.mg E (w.setZ w1.Z) ((rest w.s).bind fun ys => ret (D.lst ys)) (fun d w' => ∀ v, w'.rep X.K d v → Q v w'.H)
  refine ⟨fun i m H => m = ds.length - i ∧ i ≤ ds.length ∧ ∃ (acc : List V) (accD : List D) (w : Wd), w.H = H ∧ St (outL ob ib (ds.drop i) accD) w ∧ w.H Dl = some (.lst acc) ∧ w.repL X.K accD acc, ?_, ?_⟩
  · refine ⟨ds.length, by omega, Nat.zero_le _, [], [], ⟨w1.I, w1.L, Dl :: w1.Z, w1.s, upd w1.H Dl (.lst [])⟩, rfl, ⟨⟨fun _ _ e => e, List.prefix_rfl⟩, ⟨fun _ _ e => e, List.prefix_rfl, rfl, fun a ha => upd_ne (fun e => hDZ (e ▸ ha))⟩, rfl, okz, ?_⟩, upd_same, .nil⟩
    exact Fin.up h1 ⟨fun _ _ e => e, List.prefix_rfl, rfl, fun a ha => upd_ne (fun e => hDZ (e ▸ ha))⟩
  · rintro i m H2 ⟨rfl, hle, acc, accD, w2, rfl, ⟨l02, l2, hz2, ok2, h2⟩, hacc, racc⟩
    by_cases hlt : i < ds.length
    · have hd : ds[i]? = some ds[i] := List.getElem?_eq_getElem hlt
      rw [List.drop_eq_getElem_cons hlt] at h2
      refine .inr ⟨hJ.go w2 i l02 ok2 hlt, fun H' => ∃ (acc : List V) (accD : List D) (w : Wd), w.H = H' ∧ St (outL ob ib (ds.drop (i + 1)) accD) w ∧ w.H Dl = some (.lst acc) ∧ w.repL X.K accD acc,
        fun H' p' => ⟨ds.length - (i + 1), by omega, rfl, hlt, p'⟩, fun x H' y => ?_⟩
      obtain ⟨w3, l3, ok3, es, eh, r3⟩ := hJ.yld w2 i _ x H' l02 ok2 hd y
      subst eh
      have hz3 : w3.Z = Dl :: w1.Z := l3.z.trans hz2
      have hacc3 : w3.H Dl = some (.lst acc) := (l3.zh Dl (by rw [hz2]; exact List.mem_cons_self)).trans hacc
      have l3u : (w2.setZ w1.Z).le (w3.setZ w1.Z) := ⟨l3.i, l3.l, rfl, fun b hb => l3.zh b (by rw [hz2]; exact List.mem_cons_of_mem _ hb)⟩
      have h3 : Fin X.K X.mg E (w3.setZ w1.Z) ((ob ds[i] w3.s).bind fun o s => ((match o with | none => outL ob ib (ds.drop (i + 1)) accD | some p => bnd (inL (ib p.1) p.2 accD) fun acc' => outL ob ib (ds.drop (i + 1)) acc') s).bind fun ys => ret (D.lst ys)) (fun d w' => ∀ v, w'.rep X.K d v → Q v w'.H) := by
        rw [← bind_assoc3, es]
        exact Fin.up h2 l3u
      have eob : ob ds[i] = noEr (bnd (tg.d ds[i] (wipeD ρ vs)) fun ρ' => bnd (t ρ') fun b => br b (bnd (fi1 ρ') fun ds1 => ret (some (ρ', ds1))) (ret none)) := by rw [← hob]; rfl
      have h4 := Fin.inZ (E' := E0) hz3 (by rw [eob]; exact noEr_ne _ _) (Fin.bind h3)
      have h5 := noEr_fin2 eob h4
      have re3 : RepE X.K w3 (wipeD ρ vs) (wipe σ vs) := (re1.le0 l02).le l3
      refine Tg.run hv wipe_idem ok3 r3 re3 ((Fin.bind h5).imp fun ρ4 w4 l4 ok4 h6 σ4 re4 hw4 => ⟨hw4, ?_⟩)
      refine ⟨ρ4, w4, rfl, ok4, re4, (Fin.bind h6).imp fun b w5 l5 ok5 h7 => ?_⟩
      have hz5 : w5.Z = Dl :: w1.Z := (l5.z.trans l4.z).trans hz3
      have hacc5 : w5.H Dl = some (.lst acc) := by
        rw [l5.zh Dl (by rw [l4.z, hz3]; exact List.mem_cons_self), l4.zh Dl (by rw [hz3]; exact List.mem_cons_self)]; exact hacc3
      have l05 : w1.le0 w5 := ((l02.trans l3.le0).trans l4.le0).trans l5.le0
      have zin : ∀ {a : Addr}, a ∈ w1.Z → a ∈ w3.Z := fun ha => by rw [hz3]; exact List.mem_cons_of_mem _ ha
      have l5u : w1.le (w5.setZ w1.Z) := ⟨l05.i, l05.l, rfl, fun a ha => by
        show w5.H a = w1.H a
        rw [l5.zh a (by rw [l4.z]; exact zin ha), l4.zh a (zin ha)]
        exact (l3u.zh a ha).trans (l2.zh a ha)⟩
      have racc5 := racc.le0 ((l3.le0.trans l4.le0).trans l5.le0)
      cases b with
      | false =>
        have h8 := fin_ret (mg := X.mg) (E := E0) ok5 h7
        exact ⟨acc, accD, w5, rfl, ⟨l05, l5u, hz5, ok5, h8⟩, hacc5, racc5⟩
      | true =>
        refine ⟨ρ4, w5, rfl, ok5, re4.le l5, (Fin.bind h7).imp fun ds1 w6 l6 ok6 h8 J1 hJ1 => ?_⟩
        have h9 := fin_ret (mg := X.mg) (E := E0) ok6 h8
        have hz6 : w6.Z = Dl :: w1.Z := l6.z.trans hz5
        have hacc6 : w6.H Dl = some (.lst acc) := (l6.zh Dl (by rw [hz5]; exact List.mem_cons_self)).trans hacc5
        have l06 := l05.trans l6.le0
        have l6u : w1.le (w6.setZ w1.Z) := ⟨l06.i, l06.l, rfl, fun a ha => (l6.zh a (by rw [hz5]; exact List.mem_cons_of_mem _ ha)).trans (l5u.zh a ha)⟩
        have re6 := ((re4.le l5).le l6).wipe vs1
        refine ⟨fun j k H => k = ds1.length - j ∧ j ≤ ds1.length ∧ ∃ (acc : List V) (accD : List D) (w : Wd), w.H = H ∧ w6.le0 w ∧ St (bnd (inL (ib ρ4) (ds1.drop j) accD) fun acc' => outL ob ib (ds.drop (i + 1)) acc') w ∧ w.H Dl = some (.lst acc) ∧ w.repL X.K accD acc, ?_, ?_⟩
        · exact ⟨_, rfl, Nat.zero_le _, acc, accD, w6, rfl, Wd.le0.refl _, ⟨l06, l6u, hz6, ok6, h9⟩, hacc6, racc5.le0 l6.le0⟩
        · rintro j k' H7 ⟨rfl, hle1, acc', accD', w7, rfl, l67, ⟨l07, l7u, hz7, ok7, h10⟩, hacc7, racc7⟩
          by_cases hlt1 : j < ds1.length
          · have hd1 : ds1[j]? = some ds1[j] := List.getElem?_eq_getElem hlt1
            rw [List.drop_eq_getElem_cons hlt1] at h10
            refine .inr ⟨hJ1.go w7 j l67 ok7 hlt1, fun H' => ∃ (acc : List V) (accD : List D) (w : Wd), w.H = H' ∧ w6.le0 w ∧ St (bnd (inL (ib ρ4) (ds1.drop (j + 1)) accD) fun acc' => outL ob ib (ds.drop (i + 1)) acc') w ∧ w.H Dl = some (.lst acc) ∧ w.repL X.K accD acc,
              fun H' p' => ⟨ds1.length - (j + 1), by omega, rfl, hlt1, p'⟩, fun x1 H' y1 => ?_⟩
            obtain ⟨w8, l8, ok8, es8, eh8, r8⟩ := hJ1.yld w7 j _ x1 H' l67 ok7 hd1 y1
            subst eh8
            have hz8 : w8.Z = Dl :: w1.Z := l8.z.trans hz7
            have hacc8 : w8.H Dl = some (.lst acc') := (l8.zh Dl (by rw [hz7]; exact List.mem_cons_self)).trans hacc7
            have l8u : (w7.setZ w1.Z).le (w8.setZ w1.Z) := ⟨l8.i, l8.l, rfl, fun b hb => l8.zh b (by rw [hz7]; exact List.mem_cons_of_mem _ hb)⟩
            have h11 : Fin X.K X.mg E (w8.setZ w1.Z) ((ib ρ4 ds1[j] w8.s).bind fun o s => ((bnd (match o with | none => inL (ib ρ4) (ds1.drop (j + 1)) accD' | some y => if szOk (accD'.length + 1) = true then inL (ib ρ4) (ds1.drop (j + 1)) (accD' ++ [y]) else stuck) fun acc' => outL ob ib (ds.drop (i + 1)) acc') s).bind fun ys => ret (D.lst ys)) (fun d w' => ∀ v, w'.rep X.K d v → Q v w'.H) := by
              have e : ((bnd (inL (ib ρ4) (ds1[j] :: ds1.drop (j + 1)) accD') (fun acc' => outL ob ib (ds.drop (i + 1)) acc') w7.s).bind fun ys => ret (D.lst ys)) = ((ib ρ4 ds1[j] w8.s).bind fun o s => ((bnd (match o with | none => inL (ib ρ4) (ds1.drop (j + 1)) accD' | some y => if szOk (accD'.length + 1) = true then inL (ib ρ4) (ds1.drop (j + 1)) (accD' ++ [y]) else stuck) fun acc' => outL ob ib (ds.drop (i + 1)) acc') s).bind fun ys => ret (D.lst ys)) := by
                rw [es8]
                show ((((ib ρ4 ds1[j]) w7.s).bind _).bind _).bind _ = _
                cases (ib ρ4 ds1[j]) w7.s <;> rfl
              rw [← e]
              exact Fin.up h10 l8u
            have eib : ib ρ4 ds1[j] = noEr (bnd (tg1.d ds1[j] (wipeD ρ4 vs1)) fun ρ' => bnd (t1 ρ') fun b => br b (bnd (f ρ') fun y => ret (some y)) (ret none)) := by rw [← hib]; rfl
            have h12 := Fin.inZ (E' := E0) hz8 (by rw [eib]; exact noEr_ne _ _) (Fin.bind h11)
            have h13 := noEr_fin2 eib h12
            have re8 : RepE X.K w8 (wipeD ρ4 vs1) (wipe σ4 vs1) := (re6.le0 l67).le l8
            refine Tg.run hv1 wipe_idem ok8 r8 re8 ((Fin.bind h13).imp fun ρ9 w9 l9 ok9 h14 σ9 re9 hw9 => ⟨hw9, ?_⟩)
            refine ⟨ρ9, w9, rfl, ok9, re9, (Fin.bind h14).imp fun b w10 l10 ok10 h15 => ?_⟩
            have hz10 : w10.Z = Dl :: w1.Z := (l10.z.trans l9.z).trans hz8
            have hacc10 : w10.H Dl = some (.lst acc') := by
              rw [l10.zh Dl (by rw [l9.z, hz8]; exact List.mem_cons_self), l9.zh Dl (by rw [hz8]; exact List.mem_cons_self)]; exact hacc8
            have l610 : w6.le0 w10 := ((l67.trans l8.le0).trans l9.le0).trans l10.le0
            have zin8 : ∀ {a : Addr}, a ∈ w1.Z → a ∈ w8.Z := fun ha => by rw [hz8]; exact List.mem_cons_of_mem _ ha
            have l10u : w1.le (w10.setZ w1.Z) := ⟨(l06.trans l610).i, (l06.trans l610).l, rfl, fun a ha => by
              show w10.H a = w1.H a
              rw [l10.zh a (by rw [l9.z]; exact zin8 ha), l9.zh a (zin8 ha)]
              exact (l8u.zh a ha).trans (l7u.zh a ha)⟩
            have racc10 := racc7.le0 ((l8.le0.trans l9.le0).trans l10.le0)
            cases b with
            | false =>
              have h16 := fin_ret (mg := X.mg) (E := E0) ok10 h15
              exact ⟨acc', accD', w10, rfl, l610, ⟨l06.trans l610, l10u, hz10, ok10, h16⟩, hacc10, racc10⟩
            | true =>
              refine ⟨ρ9, w10, rfl, ok10, re9.le l10, (Fin.bind h15).imp fun y w11 l11 ok11 h16 v rv => ?_⟩
              have h17 := fin_ret (mg := X.mg) (E := E0) ok11 h16
              have hz11 : w11.Z = Dl :: w1.Z := l11.z.trans hz10
              have hacc11 : w11.H Dl = some (.lst acc') := (l11.zh Dl (by rw [hz10]; exact List.mem_cons_self)).trans hacc10
              have okn := ok11.upZ (o := .lst acc') (o' := .lst (acc' ++ [v])) hz11 hDZ
              have lu : (w11.setZ w1.Z).le ((⟨w11.I, w11.L, w11.Z, w11.s, upd w11.H Dl (.lst (acc' ++ [v]))⟩ : Wd).setZ w1.Z) := ⟨fun _ _ e => e, List.prefix_rfl, rfl, fun a ha => upd_ne (fun e => hDZ (e ▸ ha))⟩
              have l11u : w1.le (w11.setZ w1.Z) := ⟨((l06.trans l610).trans l11.le0).i, ((l06.trans l610).trans l11.le0).l, rfl, fun a ha => (l11.zh a (by rw [hz10]; exact List.mem_cons_of_mem _ ha)).trans (l10u.zh a ha)⟩
              have racc11 := racc10.le0 l11.le0
              by_cases hz : szOk (accD'.length + 1) = true
              · have h18 : Fin X.K X.mg E (w11.setZ w1.Z) ((bnd (inL (ib ρ4) (ds1.drop (j + 1)) (accD' ++ [y])) (fun acc' => outL ob ib (ds.drop (i + 1)) acc') w11.s).bind fun ys => ret (D.lst ys)) (fun d w' => ∀ v, w'.rep X.K d v → Q v w'.H) := by
                  have h17' : Fin X.K X.mg E (w11.setZ w1.Z) ((bnd (if szOk (accD'.length + 1) = true then inL (ib ρ4) (ds1.drop (j + 1)) (accD' ++ [y]) else stuck) (fun acc' => outL ob ib (ds.drop (i + 1)) acc') w11.s).bind fun ys => ret (D.lst ys)) (fun d w' => ∀ v, w'.rep X.K d v → Q v w'.H) := h17
                  rw [if_pos hz] at h17'
                  exact h17'
                refine ⟨acc', hacc11, ?_, acc' ++ [v], accD' ++ [y], ⟨w11.I, w11.L, w11.Z, w11.s, upd w11.H Dl (.lst (acc' ++ [v]))⟩, rfl, ⟨(l610.trans l11.le0).i, (l610.trans l11.le0).l⟩, ⟨⟨((l06.trans l610).trans l11.le0).i, ((l06.trans l610).trans l11.le0).l⟩, l11u.trans lu, hz11, okn, Fin.up h18 lu⟩, upd_same, ?_⟩
                · have := szOk_le hz
                  rw [racc11.length] at this
                  omega
                · exact (racc11).append (.cons rv .nil)
              · have h17' : Fin X.K X.mg E (w11.setZ w1.Z) ((bnd (if szOk (accD'.length + 1) = true then inL (ib ρ4) (ds1.drop (j + 1)) (accD' ++ [y]) else stuck) (fun acc' => outL ob ib (ds.drop (i + 1)) acc') w11.s).bind fun ys => ret (D.lst ys)) (fun d w' => ∀ v, w'.rep X.K d v → Q v w'.H) := h17
                rw [if_neg hz] at h17'
                exact h17'.elim
          · have hj : j = ds1.length := by omega
            subst hj
            rw [List.drop_length] at h10
            refine .inl ⟨hJ1.stop w7 _ l67 ok7 (Nat.le_refl _), acc', accD', w7, rfl, ⟨l07, l7u, hz7, ok7, h10⟩, hacc7, racc7⟩
    · have hi' : i = ds.length := by omega
      subst hi'
      rw [List.drop_length] at h2
      refine .inl ⟨hJ.stop w2 _ l02 ok2 (Nat.le_refl _), ?_⟩
      exact keepZ_lst _ _ _ _ _ _ _ _ w2 hz2 hDZ ok2 hacc racc h2
theorem de_lc2 (own : List (Str × Nat)) (tg tg1 : Tg) (vs1 : List Nat) (C : Ctl X E k) (hi : DI X E tgE iter fi) (ok : blkC X.N X.env.scope scope own = true)
    (hg : ∀ (s : Shared) (H : Hp) (C : Addr) (cl : List (Str × Addr)) (fp : List Addr), PG (X.blk s H scope (compEnvC scope cl C X.env) fp) tgE (tg.raw X.K)) (ht : ∀ (s : Shared) (H : Hp) (C : Addr) (cl : List (Str × Addr)) (fp : List Addr), DTs (X.blk s H scope (compEnvC scope cl C X.env) fp) E0 ifs t)
    (hi1 : ∀ (s : Shared) (H : Hp) (C : Addr) (cl : List (Str × Addr)) (fp : List Addr), DI (X.blk s H scope (compEnvC scope cl C X.env) fp) E0 tgE1 iter1 fi1)
    (hg1 : ∀ (s : Shared) (H : Hp) (C : Addr) (cl : List (Str × Addr)) (fp : List Addr), PG (X.blk s H scope (compEnvC scope cl C X.env) fp) tgE1 (tg1.raw X.K)) (ht1 : ∀ (s : Shared) (H : Hp) (C : Addr) (cl : List (Str × Addr)) (fp : List Addr), DTs (X.blk s H scope (compEnvC scope cl C X.env) fp) E0 ifs1 t1)
    (he : ∀ (s : Shared) (H : Hp) (C : Addr) (cl : List (Str × Addr)) (fp : List Addr), DE (X.blk s H scope (compEnvC scope cl C X.env) fp) E0 elt f) (hv : ∀ i ∈ tg.ix, i ∈ own.map (·.2) := by decide) (hv1 : ∀ i ∈ tg1.ix, i ∈ vs1 := by decide) (hv2 : ∀ i ∈ vs1, i ∈ own.map (·.2) := by decide)
    (hs : ∀ x, foldedSetIterable iter X.env x = pure x := by intro _; rfl) (hs1 : ∀ env x, foldedSetIterable iter1 env x = pure x := by intro _ _; rfl) :
    DE X E (.ListComp elt [⟨tgE, iter, ifs, 0⟩, ⟨tgE1, iter1, ifs1, 0⟩] scope pos) (eLc2 (own.map (·.2)) vs1 fi tg.d t fi1 tg1.d t1 f) :=
  (pe_lc2 C.calm C.nd hi (blkOk_by ok) hv2 hg ht hi1 hg1 ht1 he hs hs1).imp fun _ _ _ h => lc2_run tg tg1 _ _ hv hv1 h
end
end DL

namespace DL
open PySem PySem.Spec PyProof.Rows L2
/-! ## dicts as cells, keys ints -/
def keyD : D → Option Key
  | .int i => some (.inl i)
  | .str x => some (.inr x)
  | _ => none
def valD (kvs : List (Key × D)) (k : Key) : Option D := (kvs.find? fun kv => decide (kv.1 = k)).map (·.2)
def putD (kvs : List (Key × D)) (k : Key) (v : D) : List (Key × D) := if (kvs.any fun kv => decide (kv.1 = k)) = true then kvs.map (fun kv => if kv.1 = k then (kv.1, v) else kv) else kvs ++ [(k, v)]
def dicAt (s : Sto) : D → Option (List (Key × D))
  | .loc n => match s[n]? with | some (some (.dic kvs)) => some kvs | _ => none
  | _ => none
def mkDic : M D := fun s => .ok (.loc s.length) (s ++ [some (.dic [])])
def dgetD (x i : D) : M D := fun s => match dicAt s x, keyD i with
  | some kvs, some k => match valD kvs k with | some d => .ok d s | none => .no
  | _, _ => .no
def dputD (x i d : D) : M Unit := fun s => match x, dicAt s x, keyD i with
  | .loc n, some kvs, some k => if szOk (kvs.length + 1) = true then .ok () (s.set n (some (.dic (putD kvs k d)))) else .no
  | _, _, _ => .no
section
variable {K : PySem.W.Frag} {mg : Str → Option Value} {E : XK} {w : Wd} {I : Hp} {L : List Addr}
theorem rep_key {d : D} {v : V} {k : Key} (r : w.rep K d v) (h : keyD d = some k) : v = kV k := by
  cases r <;> first | (cases h; rfl) | cases h
def RepKV (K : PySem.W.Frag) (w : Wd) (kvs : List (Key × D)) (vs : List (Key × V)) : Prop := kvs.map (·.1) = vs.map (·.1) ∧ w.repL K (kvs.map (·.2)) (vs.map (·.2))
theorem repKV_cons {p : Key × D} {q : Key × V} {kvs : List (Key × D)} {vs : List (Key × V)} : RepKV K w (p :: kvs) (q :: vs) ↔ (p.1 = q.1 ∧ w.rep K p.2 q.2) ∧ RepKV K w kvs vs := by
  constructor
  · rintro ⟨h1, h2⟩
    obtain ⟨e1, e2⟩ := List.cons.inj h1
    cases h2 with
    | cons a b => exact ⟨⟨e1, a⟩, e2, b⟩
  · rintro ⟨⟨e1, a⟩, e2, b⟩
    exact ⟨by rw [List.map_cons, List.map_cons, e1, e2], .cons a b⟩
theorem repKV_len {kvs : List (Key × D)} {vs : List (Key × V)} (h : RepKV K w kvs vs) : kvs.length = vs.length := by
  have := congrArg List.length h.1
  rwa [List.length_map, List.length_map] at this
theorem repKV_val (k : Key) : ∀ {kvs : List (Key × D)} {vs : List (Key × V)}, RepKV K w kvs vs → (∀ d, valD kvs k = some d → ∃ v, valV vs k = some v ∧ w.rep K d v) ∧ (valD kvs k = none → valV vs k = none)
  | [], [], _ => ⟨fun d h => (by cases h), fun _ => rfl⟩
  | [], _ :: _, h => by have := h.1; cases this
  | _ :: _, [], h => by have := h.1; cases this
  | p :: kvs, q :: vs, h => by
    obtain ⟨⟨e, r⟩, h2⟩ := repKV_cons.mp h
    have ih := repKV_val k h2
    by_cases hk : p.1 = k
    · have e1 : valD (p :: kvs) k = some p.2 := by unfold valD; rw [List.find?_cons, decide_eq_true hk]; rfl
      rw [e1, valV_pos (e ▸ hk)]
      exact ⟨fun d hd => ⟨_, rfl, Option.some.inj hd ▸ r⟩, fun hd => (by cases hd)⟩
    · have e1 : valD (p :: kvs) k = valD kvs k := by unfold valD; rw [List.find?_cons, decide_eq_false hk]
      rw [e1, valV_neg (fun z => hk (e.trans z))]
      exact ih
theorem repKV_put (k : Key) {d : D} {v : V} (r : w.rep K d v) {kvs : List (Key × D)} {vs : List (Key × V)} (h : RepKV K w kvs vs) : RepKV K w (putD kvs k d) (putK vs k v) := by
  have ea : (kvs.any fun kv => decide (kv.1 = k)) = (vs.any fun kv => decide (kv.1 = k)) := by
    have e1 : (kvs.any fun kv => decide (kv.1 = k)) = (kvs.map (·.1)).any fun x => decide (x = k) := by rw [List.any_map]; rfl
    have e2 : (vs.any fun kv => decide (kv.1 = k)) = (vs.map (·.1)).any fun x => decide (x = k) := by rw [List.any_map]; rfl
    rw [e1, e2, h.1]
  unfold putD putK
  rw [ea]
  split
  · clear ea
    induction kvs generalizing vs with
    | nil => cases vs with
      | nil => exact ⟨rfl, .nil⟩
      | cons q vs => have := h.1; cases this
    | cons p kvs ih => cases vs with
      | nil => have := h.1; cases this
      | cons q vs =>
        obtain ⟨⟨e, rr⟩, h2⟩ := repKV_cons.mp h
        rw [List.map_cons, List.map_cons]
        refine repKV_cons.mpr ⟨?_, ?_⟩
        · by_cases hk : p.1 = k
          · rw [if_pos hk, if_pos (e ▸ hk)]; exact ⟨e, r⟩
          · rw [if_neg hk, if_neg (fun z => hk (e.trans z))]; exact ⟨e, rr⟩
        · rename_i hany
          by_cases hy : (vs.any fun kv => decide (kv.1 = k)) = true
          · exact ih h2 hy
          · have no : ∀ {α : Type} (l : List (Key × α)) (y : α), (l.any fun kv => decide (kv.1 = k)) = false → l.map (fun kv => if kv.1 = k then (kv.1, y) else kv) = l := fun l y hl => by
              induction l with
              | nil => rfl
              | cons a l ihl =>
                rw [List.any_cons, Bool.or_eq_false_iff] at hl
                rw [List.map_cons, if_neg (of_decide_eq_false hl.1), ihl hl.2]
            have hy' : (vs.any fun kv => decide (kv.1 = k)) = false := Bool.eq_false_iff.mpr hy
            have hk' : (kvs.any fun kv => decide (kv.1 = k)) = false := by
              have e1 : (kvs.any fun kv => decide (kv.1 = k)) = (kvs.map (·.1)).any fun x => decide (x = k) := by rw [List.any_map]; rfl
              have e2 : (vs.any fun kv => decide (kv.1 = k)) = (vs.map (·.1)).any fun x => decide (x = k) := by rw [List.any_map]; rfl
              rw [e1, h2.1, ← e2]; exact hy'
            rw [no kvs d hk', no vs v hy']
            exact h2
  · refine ⟨by rw [List.map_append, List.map_append, h.1]; rfl, ?_⟩
    rw [List.map_append, List.map_append]
    exact h.2.append (.cons r .nil)
theorem dic_at (ok : w.Ok K) {d : D} {v : V} {kvs : List (Key × D)} (r : w.rep K d v) (h : dicAt w.s d = some kvs) : ∃ (n : Nat) (a : Addr) (vs : List (Key × V)), d = .loc n ∧ v = .ref a ∧ w.L[n]? = some a ∧ w.s[n]? = some (some (.dic kvs)) ∧ w.H a = some (.dK vs) ∧ RepKV K w kvs vs := by
  cases r with
  | loc e =>
    rename_i n a
    have h' : (match w.s[n]? with | some (some (.dic kvs)) => some kvs | _ => none) = some kvs := h
    split at h'
    · rename_i kvs' hs
      cases h'
      obtain ⟨_, vs, hx, e1, r⟩ := ok.cell n a _ e hs
      exact ⟨n, a, vs, rfl, rfl, e, hs, hx, e1, r⟩
    · cases h'
  | _ => cases h
end
section
variable {X : Cx} {E : XK} {pos p : Pos} {x : Str} {e o i value : Expr} {f fo fi fv : En → M D} {k : Nat}
def eDic : En → M D := fun _ => mkDic
theorem de_dic : DE X E (.Dict [] [] pos) eDic := pe_dnewK.imp fun σ H Q ⟨ρ, w, e, ok, re, h⟩ => by
  subst e
  intro p hp
  obtain ⟨ok', l'⟩ := ok.newL hp (c := .dic []) (o := .dK []) fun H' e => ⟨[], e, rfl, .nil⟩
  refine h _ l' ok' rfl _ (.loc ?_)
  rw [← ok.len]
  show (w.L ++ [p])[w.L.length]? = some p
  rw [List.getElem?_append_right (Nat.le_refl _), Nat.sub_self]; rfl
theorem Ctl.hu (C : Ctl X E k) : X.A.units + 1 < cLine := by have := C.room.un; omega
theorem de_dget (C : Ctl X E k) (ho : DE X E o fo) (hi : DE X E i fi) (hs : NoSl i := by exact fun _ _ => rfl) : DE X E (.Subscript o i pos) (e2 dgetD fo fi) := (pe_dget C.hu ho hi hs).imp fun σ H Q ⟨ρ, w, e, ok, re, h⟩ => by
  subst e
  refine ⟨ρ, w, rfl, ok, re, (Fin.bind h).imp fun x w1 l1 ok1 h1 v rv => ?_⟩
  refine ⟨ρ, w1, rfl, ok1, re.le l1, (Fin.bind h1).imp fun y w2 l2 ok2 h2 u ru => ?_⟩
  unfold dgetD at h2
  split at h2
  · rename_i kvs kk h3 h4
    split at h2
    · rename_i d hd
      obtain ⟨n, a, vs, rfl, rfl, e1, e2, e3, r⟩ := dic_at ok2 (rv.le l2) h3
      obtain ⟨z, hz, rz⟩ := (repKV_val kk r).1 d hd
      have := rep_key ru h4
      subst this
      exact ⟨a, z, rfl, hz ▸ DGet.k e3, h2 w2 (Wd.le.refl _) ok2 rfl z rz⟩
    · exact h2.elim
  · exact h2.elim
def sDput (fo fi fv : En → M D) : En → M Fl := fun ρ => bnd (fv ρ) fun d => bnd (fo ρ) fun x => bnd (fi ρ) fun i => bnd (dputD x i d) fun _ => ret (.nx ρ)
theorem ds_dput {pos' : Pos} (C : Ctl X E k) (ho : DE X E o fo) (hi : DE X E i fi) (hv : DE X E value fv) (hs : swapsWith value (some (.Subscript o i pos')) pos.line X.env = pure false := by rfl) : DS X E (.Assign [.Subscript o i pos'] value pos) (sDput fo fi fv) := (ps_dput C.hu ho hi hv hs).imp fun Z σ H ⟨ρ, w, e, ok, re, h⟩ => by
  subst e
  refine ⟨ρ, w, rfl, ok, re, (Fin.bind h).imp fun d w1 l1 ok1 h1 v rv => ?_⟩
  refine ⟨ρ, w1, rfl, ok1, re.le l1, (Fin.bind h1).imp fun x w2 l2 ok2 h2 ov ro => ?_⟩
  refine ⟨ρ, w2, rfl, ok2, re.le (l1.trans l2), (Fin.bind h2).imp fun y w3 l3 ok3 h3 u ru => ?_⟩
  have h4 := Fin.bind h3
  unfold dputD at h4
  split at h4
  · rename_i n kvs kk h6 h5
    split at h4
    · rename_i hz
      obtain ⟨n', a, vs, en, rfl, e1, e2, e3, r⟩ := dic_at ok3 (ro.le l3) h5
      cases en
      have := rep_key ru h6
      subst this
      have rd := rv.le (l2.trans l3)
      obtain ⟨ok4, l4⟩ := ok3.put (c := .dic (putD kvs kk d)) (o := .dK (putK vs kk v)) e1 e2 fun H' e => let q := repKV_put kk rd r; ⟨_, e, q.1, q.2⟩
      refine ⟨a, _, rfl, DPut.k e3 ?_, ?_⟩
      · have := szOk_le hz
        rw [repKV_len r] at this
        omega
      · have h5 := h4 _ l4 ok4 rfl
        exact fin_ret (Q := EndsQ X.K Z) ok4 h5 σ (re.le (((l1.trans l2).trans l3).trans l4))
    · exact h4.elim
  · exact h4.elim
/-! sorted(d), keys ints -/
def kInts : List (Key × D) → Option (List Int)
  | [] => some []
  | (.inl i, _) :: r => match kInts r with | some ns => some (i :: ns) | none => none
  | _ => none
theorem kInts_map : ∀ {kvs : List (Key × D)} {ns : List Int}, kInts kvs = some ns → kvs.map (·.1) = ns.map Sum.inl
  | [], _, h => by cases h; rfl
  | (.inl i, _) :: r, ns, h => by
    unfold kInts at h
    split at h
    · rename_i ms hm
      cases h
      rw [List.map_cons, kInts_map hm]; rfl
    · cases h
  | (.inr _, _) :: r, _, h => by unfold kInts at h; cases h
def sortDicD (a : D) : M D := fun s => match dicAt s a with
  | some kvs => match kInts kvs with | some ns => if ns.length < 64 then mkLst ((isort ns).map D.int) s else .no | none => .no
  | none => .no
theorem de_sortedDic (C : Ctl X E k) (hm : X.mg "sorted" = none) (ha : DE X E e f) (hg : Gl X "sorted" := by rfl) (he : starEach [e] X.env = (false, eval e X.env) :: starEach [] X.env := by rfl) : DE X E (.Call (.Name "sorted" p) [e] [] pos) (eCall (aCons f aNil) (on1 sortDicD)) :=
  de_callB (call_sortedDI C.calm) (cd1 fun a v w Q ok ra q => by
    unfold sortDicD at q
    split at q
    · rename_i kvs h
      split at q
      · rename_i ns hn
        split at q
        · rename_i h64
          obtain ⟨n, a, vs, rfl, rfl, e1, e2, e3, r⟩ := dic_at ok ra h
          refine ⟨a, vs, ns, rfl, .inl e3, r.1.symm.trans (kInts_map hn), h64, fun ys p' h1 h2 h3 => ?_⟩
          rw [isort_eq h1 h2] at q
          exact (fin_lst ok (repL_intsB ys) q).2 p' h3
        · exact q.elim
      · exact q.elim
    · exact q.elim) hm (by decide +kernel) (da_cons ha da_nil he) hg (by decide) (by decide) he
end
/-! ## sorted of pairs of ints -/
def plt (x y : Int × Int) : Bool := decide (x.1 < y.1) || (decide (x.1 = y.1) && decide (x.2 ≤ y.2))
def psort (ps : List (Int × Int)) : List (Int × Int) := ps.mergeSort plt
theorem plt_iff {x y : Int × Int} : plt x y = true ↔ x.1 < y.1 ∨ (x.1 = y.1 ∧ x.2 ≤ y.2) := by
  unfold plt
  rw [Bool.or_eq_true, Bool.and_eq_true, decide_eq_true_eq, decide_eq_true_eq, decide_eq_true_eq]
theorem psort_perm (ps : List (Int × Int)) : (psort ps).Perm ps := List.mergeSort_perm _ _
theorem psort_pair (ps : List (Int × Int)) : (psort ps).Pairwise fun x y => plt x y = true := by
  refine List.pairwise_mergeSort (le := plt) (fun a b c h1 h2 => ?_) (fun a b => ?_) ps
  · rw [plt_iff] at *; omega
  · rw [Bool.or_eq_true, plt_iff, plt_iff]; omega
theorem psort_eq {ps qs : List (Int × Int)} (p : qs.Perm ps) (h : qs.Pairwise fun x y => plt x y = true) : psort ps = qs :=
  List.Perm.eq_of_pairwise (fun a b _ _ h1 h2 => by
    rw [plt_iff] at h1 h2
    obtain ⟨a1, a2⟩ := a
    obtain ⟨b1, b2⟩ := b
    simp only at h1 h2
    have : a1 = b1 ∧ a2 = b2 := by omega
    rw [this.1, this.2]) (psort_pair ps) h ((psort_perm ps).trans p.symm)
def p2D (p : Int × Int) : D := .tup [.int p.1, .int p.2]
def pairsD : List D → Option (List (Int × Int))
  | [] => some []
  | .tup [.int i, .int j] :: r => match pairsD r with | some ps => some ((i, j) :: ps) | none => none
  | _ => none
theorem pairsD_map : ∀ ps : List (Int × Int), pairsD (ps.map p2D) = some ps
  | [] => rfl
  | p :: ps => by
    show (match pairsD (ps.map p2D) with | some qs => some ((p.1, p.2) :: qs) | none => none) = _
    rw [pairsD_map ps]
theorem pairsD_back : ∀ {ds : List D} {ps : List (Int × Int)}, pairsD ds = some ps → ds = ps.map p2D
  | [], _, h => by cases h; rfl
  | d :: r, ps, h => by
    unfold pairsD at h
    split at h
    · rename_i e; cases e
    · rename_i i j r' e
      cases e
      split at h
      · rename_i qs hq
        cases h
        rw [pairsD_back hq]; rfl
      · cases h
    · cases h
def kPair (I : Hp) : V → Int × Int
  | .ref a => match I a with | some (.tup [.int i, .int j]) => (i, j) | _ => (0, 0)
  | _ => (0, 0)
theorem kPair_ref {I : Hp} {a : Addr} {i j : Int} (e : I a = some (.tup [.int i, .int j])) : kPair I (.ref a) = (i, j) := by
  show (match I a with | some (.tup [.int i, .int j]) => (i, j) | _ => (0, 0)) = _
  rw [e]
section
variable {K : PySem.W.Frag} {w : Wd}
theorem kPair_rep {p : Int × Int} {v : V} (r : w.rep K (p2D p) v) : ∃ a, v = .ref a ∧ w.I a = some (.tup [.int p.1, .int p.2]) ∧ kPair w.I v = p := by
  unfold p2D at r
  cases r with
  | tup e r =>
    rename_i a xs
    obtain ⟨u, z, rfl, r1, r2⟩ := rep2 r
    cases r1
    cases r2
    exact ⟨a, rfl, e, kPair_ref e⟩
theorem kPair_reps : ∀ {ps : List (Int × Int)} {vs : List V}, w.repL K (ps.map p2D) vs → vs.map (kPair w.I) = ps
  | [], _, r => by cases r; rfl
  | p :: ps, _, r => by
    cases r with
    | cons a b =>
      obtain ⟨_, _, _, e⟩ := kPair_rep a
      rw [List.map_cons, e, kPair_reps b]
theorem rep_kPair : ∀ {ys : List V}, (∀ y ∈ ys, ∃ a i j, y = .ref a ∧ w.I a = some (.tup [.int i, .int j])) → w.repL K ((ys.map (kPair w.I)).map p2D) ys
  | [], _ => .nil
  | y :: ys, h => by
    obtain ⟨a, i, j, rfl, e⟩ := h y List.mem_cons_self
    refine .cons ?_ (rep_kPair fun z hz => h z (List.mem_cons_of_mem _ hz))
    have : kPair w.I (.ref a) = (i, j) := kPair_ref e
    rw [this]
    exact .tup e (.cons (.int _) (.cons (.int _) .nil))
end
/-- sorted(..) of pairs, made by mk -/
def psortD (mk : List D → M D) (a : D) : M D := fun s => match viewL s a with
  | some ds => match pairsD ds with | some ps => mk ((psort ps).map p2D) s | none => .no
  | none => .no
section
variable {X : Cx} {E : XK} {pos p : Pos} {e : Expr} {f : En → M D} {k : Nat}
theorem psort_run {K : PySem.W.Frag} {mg : Str → Option Value} {mk : List D → M D} (hk : ∀ {ds : List D} {vs : List V} {w : Wd} {Q : VK}, w.Ok K → w.repL K ds vs → (Fin K mg E w (mk ds w.s) fun d w' => ∀ v, w'.rep K d v → Q v w'.H) → vs.length ≤ sizeLine ∧ ∀ p, w.H p = none → Q (.ref p) (upd w.H p (.lst vs))) : CallD K mg E (rSortedPO K) (on1 (psortD mk)) := cd1 fun a v w Q ok ra q => by
  unfold psortD at q
  split at q
  · rename_i ds h
    split at q
    · rename_i ps hp
      obtain ⟨p, ys, rfl, hs, r⟩ := rep_lst ok ra h
      have e := pairsD_back hp
      subst e
      have ek := kPair_reps r
      have hall : ∀ y ∈ ys, ∃ a i j, y = .ref a ∧ w.I a = some (.tup [.int i, .int j]) := by
        intro y hy
        obtain ⟨n, hn⟩ := List.getElem?_of_mem hy
        obtain ⟨d, hd, rd⟩ := r.getV hn
        rw [List.getElem?_map] at hd
        cases q2 : ps[n]? with
        | none => rw [q2] at hd; cases hd
        | some pp =>
          rw [q2] at hd
          cases hd
          obtain ⟨a, e1, e2, _⟩ := kPair_rep rd
          exact ⟨a, _, _, e1, e2⟩
      refine ⟨p, ys, kPair w.I, rfl, SqL.of hs, fun y hy => ?_, fun zs p' h1 h2 h3 => ?_⟩
      · obtain ⟨a, i, j, rfl, e⟩ := hall y hy
        have : kPair w.I (.ref a) = (i, j) := kPair_ref e
        rw [this]
        exact ⟨a, rfl, ok.fr _ _ e⟩
      · have e1 : psort ps = zs.map (kPair w.I) := by
          refine psort_eq (by rw [← ek]; exact h2.perm.map _) ?_
          rw [List.pairwise_map]
          refine List.Pairwise.imp ?_ h1
          intro x y hxy
          have := SrtO.lexB_no.mp (show SrtO.lexB (kPair w.I y) (kPair w.I x) = false from hxy)
          rw [plt_iff]; omega
        rw [e1] at q
        exact (hk ok (rep_kPair fun y hy => hall y (h2.perm.mem_iff.mp hy)) q).2 p' h3
    · exact q.elim
  · exact q.elim
theorem de_sortedP (hm : X.mg "sorted" = none) (ha : DE X E e f) (hg : Gl X "sorted" := by rfl) (he : starEach [e] X.env = (false, eval e X.env) :: starEach [] X.env := by rfl) : DE X E (.Call (.Name "sorted" p) [e] [] pos) (eCall (aCons f aNil) (on1 (psortD mkLst))) :=
  de_callB cr_sortedPO (psort_run fun ok r q => fin_lst ok r q) hm (by decide +kernel) (da_cons ha da_nil he) hg (by decide) (by decide) he
theorem de_sortedPL (hm : X.mg "sorted" = none) (ha : DE X E e f) (hg : Gl X "sorted" := by rfl) (he : starEach [e] X.env = (false, eval e X.env) :: starEach [] X.env := by rfl) : DE X E (.Call (.Name "sorted" p) [e] [] pos) (eCall (aCons f aNil) (on1 (psortD mkLoc))) :=
  de_callB cr_sortedPO (psort_run fun ok r q => fin_loc ok r q) hm (by decide +kernel) (da_cons ha da_nil he) hg (by decide) (by decide) he
end
end DL
/-! ## enumerate of a tuple -/
namespace DL
open PySem PySem.Spec PyProof.Rows L2
set_option maxHeartbeats 4000000 in
theorem meets_enumT (t : Addr) (items : Array Value) :
    Meets (Builtin.«enumerate.__new__» ⟨[.type "enumerate", .ref t], []⟩) (fun _ R s => s.heap.IsTuple t items ∧
      R (.ok (.ret (.ref (s.heap.push { cls := .type "tuple_iterator", data := .fields #[.ref t, .int 0 0] }).objs.size)))
        { s with heap := (s.heap.push { cls := .type "tuple_iterator", data := .fields #[.ref t, .int 0 0] }).push { cls := .type "enumerate", data := .fields #[.none, .bool false, .ref s.heap.objs.size, rawInt 0, .none, .none] } }) :=
  .of_wp fun prog w A R s h => by
    obtain ⟨hp, g, d, tk, os⟩ := s; obtain ⟨h1, h⟩ := h
    have hsub := sub_enumerate
    have q1 : ∀ {A' : Around} {E : Value → Shared → Prop} {Q : Value → Shared → Prop}, Q (.ref hp.objs.size) ⟨hp.push { cls := .type "tuple_iterator", data := .fields #[.ref t, .int 0 0] }, g, d, tk, os⟩ → wpAny (model prog w) A' (pyIter (.ref t)) Q E ⟨hp, g, d, tk, os⟩ :=
      fun q => wpAny_pyIter_tuple h1 q
    wp_walk using q1
    refine wpAny_stack_any fun st => wpAny_pure ?_
    split
    · rename_i c _ _ _ _ _
      cases (c == Value.type "enumerate")
      · wp_walk using q1
        exact ⟨_, rfl, h⟩
      · wp_walk using q1
        exact ⟨_, rfl, h⟩
    · wp_walk using q1
      exact ⟨_, rfl, h⟩
theorem call_enumT {prog : Program} {w : World} {A : Around} {E : Value → Shared → Prop} {s : Shared} {t : Addr} {items : Array Value} {Q : Value → Shared → Prop} (hT : s.heap.IsTuple t items)
    (h : ∀ h', IsEnum h' (s.heap.objs.size + 1) s.heap.objs.size 0 .none → h'.IsTupleIter s.heap.objs.size t 0 →
      (∀ b o, s.heap.get? b = some o → h'.get? b = some o) → Q (.ref (s.heap.objs.size + 1)) { s with heap := h' }) :
    wpAny (model prog w) A (call (.type "enumerate") [.ref t]) Q E s := by
  refine callType_new F.called_enumerate (by decide) (F.typeCall_enumerate_1 _) (F.newCall_enumerate_1 _) (fun obj => F.args_object_init_2 obj _) F.entry_enumerate_new
    (meets_enumT t items) ⟨hT, ?_⟩
  have hz : (s.heap.push { cls := .type "tuple_iterator", data := .fields #[.ref t, .int 0 0] }).objs.size = s.heap.objs.size + 1 := Heap.size_push ..
  show _ ∧ _
  rw [hz]
  have he : IsEnum ((s.heap.push { cls := .type "tuple_iterator", data := .fields #[.ref t, .int 0 0] }).push
      { cls := .type "enumerate", data := .fields #[.none, .bool false, .ref s.heap.objs.size, rawInt 0, .none, .none] }) (s.heap.objs.size + 1) s.heap.objs.size 0 .none := by
    have := Heap.get?_push_size (s.heap.push { cls := .type "tuple_iterator", data := .fields #[.ref t, .int 0 0] })
      (o := { cls := .type "enumerate", data := .fields #[.none, .bool false, .ref s.heap.objs.size, rawInt 0, .none, .none] }) rfl
    rw [hz] at this; exact this
  refine ⟨⟨_, he, rfl⟩, h _ he ⟨_, Heap.get?_push_of_some _ (Heap.get?_push_size _ rfl), rfl, rfl⟩ fun b o x => Heap.get?_push_of_some _ (Heap.get?_push_of_some _ x)⟩
end DL
namespace DL
open PySem PySem.Spec PyProof.Rows L2
def IteT (K : PySem.W.Frag) (a : Addr) : It :=
  ⟨fun i H => ∃ (xs : List V) (x : V), SqT K H a xs ∧ xs[i]? = some x, fun i H v H' => ∃ T x, v = .ref T ∧ H T = none ∧ H' = upd H T (.tup [.int (i : Nat), x]) ∧ ∀ xs, SqT K H a xs → xs[i]? = some x, fun i H => ∃ xs : List V, SqT K H a xs ∧ xs.length ≤ i⟩
theorem pyNext_enumT_end {prog : Program} {w : World} {A : Around} {E : Value → Shared → Prop} {s : Shared} {e it t : Addr} {i : Nat} {c : Int} {items : Array Value} {old : Value} {Q : Option Value → Shared → Prop} (hh : A.handled = none)
    (he : IsEnum s.heap e it c old) (hit : s.heap.IsTupleIter it t i) (hl : s.heap.IsTuple t items) (hx : items[i]? = none)
    (hQ : ∀ h', Heap.ExtBut it s.heap h' → Q none { s with heap := h' }) : wpAny (model prog w) A (pyNext (.ref e)) Q E s := by
  have hT : s.TypeIs (.ref e) "enumerate" := ⟨_, he, rfl⟩
  unfold pyNext
  refine wpAny_bind (wpAny_attempt (wpAny_callSpecial?_slot (name := Str.ofString "__next__") hT F.slot_enumerate_next
    (wpAny_call_entry F.slot_enumerate_next hT F.entry_enumerate_next ?_ (F.args_enumerate_next_1 _))))
  show wpAny _ _ (field (.ref e) 2 >>= _) _ _ _
  refine wpAny_bind (wpAny_field he rfl (x := .ref it) rfl ?_)
  refine wpAny_bind (wpAny_nextOf_tuple_end hh hit hl hx fun h' x he' hx' => ?_)
  obtain ⟨o, ho, hc⟩ := hx'
  refine wpAny_bind (wpAny_isInstance (T := "StopIteration") (b := true) ⟨o, ho, hc⟩ isSubtype_stop ?_)
  exact wpAny_pure (hQ _ he')
theorem turn_enumT {P : Program} {w : World} {K : PySem.W.Frag} {elts : List Expr} {kk : Nat} {tpos : Pos} (a e it : Addr) :
    Turn P w K (.Tuple elts kk tpos) (IteT K a) [e, it] e (fun i h => (∃ old, IsEnum h e it ((i : Nat) : Int) old) ∧ h.IsTupleIter it a i ∧ e ≠ it) where
  mem := by simp
  obj := fun i h st b hb => by
    obtain ⟨⟨old, he⟩, ⟨o, ho, hc, hd⟩, _⟩ := st
    have e' : b = e ∨ b = it := by simpa using hb
    rcases e' with z | z
    · rw [z]; exact ⟨_, he, fun v q => nomatch q⟩
    · rw [z]; exact ⟨o, ho, fun v q => by rw [hd] at q; cases q⟩
  keep := fun i h h' st k => let ⟨⟨old, he⟩, hi, hne⟩ := st; ⟨⟨old, k e (by simp) _ he⟩, hi.at fun o q => k it (by simp) o q, hne⟩
  item := by
    intro X hP hw hK hc i pins s σ H E I hf st hg
    subst hP hw hK
    obtain ⟨⟨old, he⟩, hit, hne⟩ := st
    obtain ⟨xs, x, hq, hx⟩ := hg
    obtain ⟨its, rv, p, hz⟩ := I.tuple hq
    obtain ⟨u, hu, ru⟩ := rv.get hx
    have hel : e < s.heap.objs.size := Heap.lt_size he
    have hil : it < s.heap.objs.size := by obtain ⟨_, q, _⟩ := hit; exact Heap.lt_size q
    have pT : s.heap.IsTuple a its.toArray := p
    have hat : a ≠ it := fun z => by
      subst z
      obtain ⟨_, q, qc, qd⟩ := hit
      obtain ⟨_, q', qc', m, qd'⟩ := pT
      rw [q] at q'
      cases q'
      rw [qd] at qd'
      cases qd'
    have hae : a ≠ e := fun z => by
      subst z
      obtain ⟨_, q', qc', m, qd'⟩ := pT
      have he' : s.heap.get? a = some _ := he
      rw [he'] at q'
      cases q'
      cases qd'
    refine wpAny_pyNext_enum_itemD (D := Draws.tuple (prog := X.prog) (w := X.w) (A := X.A.in1) (I.ok.hd hc) it a hat its.toArray) he ⟨hit, pT⟩ (by
      have h1 : i < its.length := by rw [← rv.length]; exact (List.getElem?_eq_some_iff.mp hx).1
      simpa using h1) hne (by simp; exact ⟨hne, Ne.symm hae⟩) fun x' h' tk hx' ho hit' hT hsz hk => ?_
    have ex : x' = u := by
      have : its.toArray[i]? = some u := by simpa using hu
      rw [this] at hx'
      exact (Option.some.inj hx').symm
    subst ex
    refine ⟨_, rfl, wpAny_letOwnedTupleGo_enum (s := { s with heap := h', toks := tk + 1 }) ho fun h'' he' sb => ?_⟩
    have hT2 : h''.get? s.heap.objs.size = some { cls := .type "tuple", data := .seq #[.int i tk, x'] } := (sb.2 _ (Nat.ne_of_gt hel)).trans hT
    have new : ObjOk X.prog X.w (upd H s.heap.objs.size (.tup [.int (i : Nat), x])) h'' s.heap.objs.size (.tup [.int (i : Nat), x]) :=
      ⟨by show 2 ≤ sizeLine; decide, [.int i tk, x'], .cons ⟨_, rfl⟩ (.cons ru .nil), ⟨_, hT2, rfl, _, rfl⟩⟩
    have I1 : Inv X pins σ (upd H s.heap.objs.size (.tup [.int (i : Nat), x])) { s with heap := h'', toks := tk + 1 } :=
      I.turnedNew (ch := [e, it]) (fun b ob hb q => (sb.2 b (fun z => hb (by simp [z]))).trans (hk b ob (fun z => hb (by simp [z])) (fun z => hb (by simp [z])) q)) hf (Nat.le_refl _) new
    refine ⟨.ref s.heap.objs.size, _, I1, rfl, ⟨_, x, rfl, I.hok.fresh (Nat.le_refl _), rfl, fun ys hy => by rw [I.tuple_inj hy hq]; exact hx⟩, ⟨⟨x', ?_⟩, hit'.1.at fun o q => (sb.2 it (Ne.symm hne)).trans q, hne⟩, fun b hb => ?_⟩
    · have e1 : ((i + 1 : Nat) : Int) = (i : Int) + 1 := by omega
      rw [e1]; exact he'
    · have hb' : b < s.heap.objs.size := by
        have e' : b = e ∨ b = it := by simpa using hb
        rcases e' with z | z
        · rw [z]; exact hel
        · rw [z]; exact hil
      rw [upd_ne (Nat.ne_of_lt hb')]
      exact (hf b hb).1
  done := by
    intro X hP hw hK hc i pins s σ H E I hf st hg
    subst hP hw hK
    obtain ⟨⟨old, he⟩, hit, hne⟩ := st
    obtain ⟨xs, hq, hx⟩ := hg
    obtain ⟨its, rv, p, hz⟩ := I.tuple hq
    obtain ⟨f0, f1, f2, f3, f4, f5⟩ := hf it (by simp)
    have hl := rv.length
    have pT : s.heap.IsTuple a its.toArray := p
    exact pyNext_enumT_end (I.ok.hd hc) he hit pT (by simp; omega) fun h' eb => ⟨rfl, I.turned (t' := s.toks) (fun b o hb q => eb b o hb q) f0 f1 f3 f4 f5⟩
  self := fun A i s Q E st h => let ⟨⟨_, he⟩, _⟩ := st; wpAny_pyIter_enum he h
def iEnumTT (K : PySem.W.Frag) (ta : TA) : TI := fun σ H R => ta σ H fun vs H1 => ∃ a xs, vs = [.ref a] ∧ SqT K H1 a xs ∧ R (IteT K a) H1
theorem pi_enumT {X : Cx} {e : Expr} {ta : TA} {p pos tpos : Pos} {elts : List Expr} {kk : Nat} (hg : Gl X "enumerate") (hm : X.mg "enumerate" = none) (ha : PA X [e] ta) (hs : starEach [e] X.env = [(false, eval e X.env)] := by rfl) :
    PI X (.Tuple elts kk tpos) (.Call (.Name "enumerate" p) [e] [] pos) (iEnumTT X.K ta) := by
  refine ⟨fun pins s σ H R I h => ?_⟩
  refine Call_ (ld_blt I hg hm boot_enumerate (PyProof.Rows.callWith_type1 (thn (ha.run pos pins s σ H _ I h) fun us s1 ⟨vs, H1, I1, r1, q1⟩ => ?_) hs rfl))
  obtain ⟨a, xs, ex, hq, q⟩ := q1
  subst ex
  cases r1 with
  | cons r rr =>
    cases rr
    cases r
    obtain ⟨its, rv, p', hz⟩ := I1.tuple hq
    refine call_enumT (show s1.heap.IsTuple a its.toArray from p') fun h' he hit hk => wpAny_pyIter_enum he ?_
    have I2 : Inv X pins σ H1 { s1 with heap := h' } := I1.kept (t' := s1.toks) hk
    refine ⟨s1.heap.objs.size + 1, [s1.heap.objs.size + 1, s1.heap.objs.size], _, _, H1, rfl, I2, turn_enumT a (s1.heap.objs.size + 1) s1.heap.objs.size, ⟨⟨.none, he⟩, hit, Nat.succ_ne_self _⟩, fun b hb => ?_, q⟩
    have e' : b = s1.heap.objs.size + 1 ∨ b = s1.heap.objs.size := by simpa using hb
    have hle : s1.heap.objs.size ≤ b := by
      rcases e' with z | z
      · rw [z]; exact Nat.le_add_right _ _
      · rw [z]; exact Nat.le_refl _
    exact I1.fpOk hle (I1.hok.fresh hle)
theorem itd_enumT {K : PySem.W.Frag} {a : Addr} {xs : List V} {w0 : Wd} {ds : List D} (h : w0.I a = some (.tup xs)) (r : w0.repL K ds xs) : ItD K (IteT K a) w0 (enumDs ds) where
  go := fun w i l ok hi => by
    rw [enumDs_len] at hi
    have hi' : i < xs.length := by rw [← r.length]; exact hi
    exact ⟨xs, xs[i], SqT.of (ok.fr _ _ (l.i _ _ h)), List.getElem?_eq_getElem hi'⟩
  stop := fun w i l ok hi => ⟨xs, SqT.of (ok.fr _ _ (l.i _ _ h)), by rw [← r.length]; rw [enumDs_len] at hi; exact hi⟩
  yld := fun w i d x H' l ok hd y => by
    obtain ⟨z, hz, rfl⟩ := enumDs_at hd
    obtain ⟨T, x', rfl, hT, rfl, y⟩ := y
    obtain ⟨v, hv, rv⟩ := r.get hz
    have e := y xs (SqT.of (ok.fr _ _ (l.i _ _ h)))
    rw [hv] at e
    obtain rfl : v = x' := Option.some.inj e
    obtain ⟨ok', l'⟩ := ok.newI hT (.tup [.int (i : Nat), v])
    exact ⟨_, l', ok', rfl, rfl, .tup upd_same (.cons (.int _) (.cons ((rv.le0 l).le l') .nil))⟩
def tupL : D → M (List D)
  | .tup ds => ret ds
  | _ => stuck
def iEnumDT (f : En → M D) : En → M (List D) := fun ρ => bnd (f ρ) fun x => bnd (tupL x) fun ds => ret (enumDs ds)
theorem di_enumT {X : Cx} {E : XK} {e : Expr} {es : List Expr} {f : En → M D} {p pos : Pos} {kk : Nat} {tpos : Pos} (hm : X.mg "enumerate" = none) (ha : DE X E e f) (hg : Gl X "enumerate" := by rfl) (hs : starEach [e] X.env = [(false, eval e X.env)] := by rfl) : DI X E (.Tuple es kk tpos) (.Call (.Name "enumerate" p) [e] [] pos) (iEnumDT f) :=
  (pi_enumT hg hm (pa_cons ha pa_nil hs) hs).imp fun σ H R ⟨ρ, w, e, ok, re, h⟩ => by
    subst e
    refine ⟨ρ, w, rfl, ok, re, (Fin.bind h).imp fun x w1 l1 ok1 h1 v rv => ?_⟩
    cases rv with
    | tup e r => exact ⟨_, _, rfl, SqT.of (ok1.fr _ _ e), fin_ret ok1 h1 _ (itd_enumT e r)⟩
    | lst e r => exact h1.elim
    | fz e r => exact h1.elim
    | bl b => exact h1.elim
    | int b => exact h1.elim
    | str b => exact h1.elim
    | non => exact h1.elim
    | gl e => exact h1.elim
    | loc e => exact h1.elim
end DL

/-! ## a for loop in a generator's body -/
namespace DL
open PySem PySem.Spec PyProof.Rows L2 GenW
section
variable {M : Model} {A : Around} {R : GenEnd} {Y : Protocol} {n : Nat} {s₀ : Shared} {c : Code} {fs : List Frame} {s : Shared} {env : PySem.Env}
  {K : Flow → Sem PySem.Fin} {J : Value → Sem PySem.Fin} {gd : Bool → Bool} {lv : List Value → List Value}
theorem seg_For {target iter : Expr} {body orelse : List Stmt} {pos : Pos}
    (h : wpAny M (A.over c fs) (eval iter env) (fun x s1 => wpAny M (A.over c fs) (pyIter x) (fun it s2 => ∀ p, Seg M A R Y n s₀ (.forLoop target it body orelse env) (M.den (.forLoop target it body orelse env))
      (.ret (fun r => ((match r with | .ok f => (.pure f : Sem Flow) | .error e => .raise e).onRaise (cameBack env)).wrap K J gd lv) none (gd false) (lv []) c p [] :: fs) s2) (fun e s' => Seg M A R Y n s₀ c (J e) fs s') s1) (fun e s' => Seg M A R Y n s₀ c (J e) fs s') s)
    (hs : ∀ x, foldedSetIterable iter env x = pure x := by intro _; rfl) :
    Seg M A R Y n s₀ c ((exec (.For target iter body orelse pos) env).wrap K J gd lv) fs s := by
  rw [exec_For]
  refine seg_bind_wrap (wpAny_standAt ?_)
  refine seg_bind_wrap (wpAny_mono h (fun x s1 h1 => ?_) fun _ _ h' => h')
  refine seg_bind_wrap (wpAny_of_eq (hs x) ?_)
  refine seg_bind_wrap (wpAny_standAt ?_)
  refine seg_bind_wrap (wpAny_holding (wpAny_mono h1 (fun it s2 h2 => ?_) fun _ _ h' => h'))
  exact seg_call h2
end
section
variable {prog : Program} {w : World} {A : Around} {R : GenEnd} {Y : Protocol} {n : Nat} {s₀ : Shared} {fs : List Frame} {s : Shared} {env : PySem.Env}
/-- what a loop's code does with an exception -/
def noted (env : PySem.Env) (x : Value) : Sem PySem.Fin := (do noteFrame x env; theTreesLotGoes x : Sem Unit).wrap (fun _ => .raise x) .raise id id
theorem seg_forLoop {target : Expr} {it : Value} {body : List Stmt}
    (h : wpAny (model prog w) (A.over (.forLoop target it body [] env) fs) (pyNext it) (fun r s1 => match r with
        | none => Seg (model prog w) A R Y n s₀ (.block [] env) (.pure (.done .next)) fs s1
        | some v => wpAny (model prog w) (A.over (.forLoop target it body [] env) fs) (letOwnedTupleGo target it v) (fun _ s2 =>
            wpAny (model prog w) (A.over (.forLoop target it body [] env) fs) (assign target env v) (fun _ s3 =>
              Seg (model prog w) A R Y n s₀ (.forLoop target it body [] env) ((execs body env).wrap (fun f => match f with
                | .next | .cont => .pure (.again (.forLoop target it body [] env))
                | .brk => .pure (.done .next)
                | .ret v => .pure (.done (.ret v))) (noted env) id id) fs s3)
              (fun x s' => Seg (model prog w) A R Y n s₀ (.forLoop target it body [] env) (noted env x) fs s') s2)
            (fun x s' => Seg (model prog w) A R Y n s₀ (.forLoop target it body [] env) (noted env x) fs s') s1)
      (fun x s' => Seg (model prog w) A R Y n s₀ (.forLoop target it body [] env) (noted env x) fs s') s) :
    Seg (model prog w) A R Y n s₀ (.forLoop target it body [] env) ((model prog w).den (.forLoop target it body [] env)) fs s := by
  show Seg _ A R Y n s₀ _ ((forTurn target it body [] env).onRaise (fun x => do noteFrame x env; theTreesLotGoes x)) fs s
  have eN : ∀ e, ((do noteFrame e env; theTreesLotGoes e : Sem Unit).bind fun _ => (.raise e : Sem PySem.Fin)) = noted env e := fun e => Sem.bind_eq_wrap _ _
  rw [Sem.onRaise_eq_wrap, Sem.wrap_congr _ _ _ (fun f => rfl) eN]
  unfold forTurn
  refine seg_bind_wrap (wpAny_standAt ?_)
  refine seg_bind_wrap (wpAny_onRaise (wpAny_mono h (fun r s1 h1 => ?_) fun x s' h' => wpAny_standAt h'))
  cases r with
  | none =>
    show Seg _ A R Y n s₀ _ (.pure (.again (.block [] env))) fs s1
    refine seg_again rfl ?_
    show Seg _ A R Y n s₀ _ ((do return PySem.Fin.done (← (execs [] env).onRaise (fun x => do noteFrame x env; theTreesLotGoes x))) : Sem PySem.Fin) fs s1
    exact h1
  | some v =>
    refine seg_bind_wrap (wpAny_mono h1 (fun _ s2 h2 => ?_) fun x s' h' => h')
    refine seg_bind_wrap (wpAny_mono h2 (fun _ s3 h3 => ?_) fun x s' h' => h')
    rw [Sem.bind_eq_wrap', Sem.wrap_wrap]
    have e : ((execs body env).wrap (fun a => Sem.wrap Sem.pure (noted env) id id (match a with
            | .next | .cont => again (.forLoop target it body [] env)
            | .brk => pure (.done .next)
            | .ret v => pure (.done (.ret v)))) (fun e => Sem.wrap Sem.pure (noted env) id id (Sem.raise e)) (fun g => id (id g)) (fun l => id (id l)))
        = (execs body env).wrap (fun f => match f with
            | .next | .cont => .pure (.again (.forLoop target it body [] env))
            | .brk => .pure (.done .next)
            | .ret v => .pure (.done (.ret v))) (noted env) id id :=
      Sem.wrap_congr (execs body env) id id (fun f => by cases f <;> rfl) (fun e => rfl)
    exact e ▸ h3
end
end DL
namespace DL
open PySem PySem.Spec PyProof.Rows L2 GenW
section
variable {X : Cx}
def tGFor (wi : TI) (g : TG) (tb : TGn) : TGn := fun D ys σ H => wi σ H fun J H1 => ∃ W : Nat → Nat → List V → L2.St → Hp → Prop, (∃ m, W 0 m ys σ H1) ∧ ∀ i m ys σ H, W i m ys σ H →
  (J.stop i H ∧ D.nx ys σ H) ∨ (J.go i H ∧ ∃ N : List V → L2.St → Hp → Prop, (∀ ys' σ' H', N ys' σ' H' → ∃ m', m' < m ∧ W (i + 1) m' ys' σ' H') ∧ ∀ x H', J.yld i H x H' → g x σ H' fun σ2 H2 => tb { D with nx := N, ct := N, bk := D.nx } ys σ2 H2)
theorem gs_for {tg iter : Expr} {body : List Stmt} {pos : Pos} {wi : TI} {g : TG} {tb : TGn} (hp : PassesOwn (model X.prog X.w) X.A X.env X.xe) (hc : X.calm = true) (hi : PI X tg iter wi) (hg : PG X tg g) (hb : GSs X body tb)
    (hs : ∀ x, foldedSetIterable iter X.env x = pure x := by intro _; rfl) : GS X (.For tg iter body [] pos) (tGFor wi g tb) := by
  refine ⟨fun A S ip R n ys s₀ c fs K J gd lv s σ H D gc hn k hI ht => ?_⟩
  obtain ⟨acc0, cc0, r0, I⟩ := hI
  refine seg_For ?_ hs
  rw [gc.over]
  refine wpAny_mono (hi.run _ s σ H _ I ht) (fun v s1 h1 => wpAny_mono h1 (fun itv s2 h2 => ?_) fun x s' hx => k.exc n s₀ x s' hx) fun x s' hx => k.exc n s₀ x s' hx
  obtain ⟨it, fp, tn, Jt, H2, e, I2, T, st2, f2, W, ⟨m0, w0⟩, turn⟩ := h2
  subst e
  intro p
  have gl := fun (kk : Result → Sem PySem.Fin) => gc_loop (k := kk) (c' := .forLoop tg (.ref it) body [] X.env) (l := lv []) (kp := []) (p := p) gc rfl rfl
  have stat : ∀ {H' : Hp} {acc1 : Array Value} {c1 : Nat}, (∀ b ∈ fp, H' b = none) → ∀ b ∈ fp, FpOk X ((S, lstObj acc1 c1) :: ip) H' b := fun hn b hb => by
    obtain ⟨_, a1, a2, a3, a4, a5⟩ := f2 b hb
    refine ⟨hn b hb, a1, a2, a3, a4, fun q hq => ?_⟩
    rcases List.mem_append.mp hq with hq | hq
    · exact a5 q (List.mem_append_left _ hq)
    · rcases List.mem_cons.mp hq with rfl | hq
      · exact a5 (S, lstObj acc0 cc0) (List.mem_append_right _ List.mem_cons_self)
      · exact a5 q (List.mem_append_right _ (List.mem_cons_of_mem _ hq))
  have loop : ∀ (m i n : Nat) (ys : List V) (s₀ s : Shared) (σ : L2.St) (H : Hp), n + ys.length = sizeLine → W i m ys σ H → GI X S ip ys σ H s → tn i s.heap → (∀ b ∈ fp, H b = none) →
      Seg (model X.prog X.w) A R (GY X S) n s₀ (.forLoop tg (.ref it) body [] X.env) ((model X.prog X.w).den (.forLoop tg (.ref it) body [] X.env))
        (.ret (fun r => ((match r with | .ok f => (.pure f : Sem Flow) | .error e => .raise e).onRaise (cameBack X.env)).wrap K J gd lv) none (gd false) (lv []) c p [] :: fs) s := by
    intro m
    induction m using Nat.strongRecOn with
    | ind m ih =>
      intro i n ys s₀ s σ H hn w hI st fr
      have ee : ∀ (n : Nat) (s₀ : Shared) (x : Value) (s' : Shared), X.xe x s' → Seg (model X.prog X.w) A R (GY X S) n s₀ (.forLoop tg (.ref it) body [] X.env)
          (noted X.env x)
          (.ret (fun r => ((match r with | .ok f => (.pure f : Sem Flow) | .error e => .raise e).onRaise (cameBack X.env)).wrap K J gd lv) none (gd false) (lv []) c p [] :: fs) s' := fun n s₀ x s' hx => by
        unfold noted
        refine seg_wrap ?_
        rw [(gl _).over]
        refine wpAny_bind (wpAny_mono (hp x s' hx) (fun _ s'' hcb => wpAny_theTreesLotGoes ?_) fun y s'' hcb => ?_)
        · exact seg_leaf (.error x) (seg_cameBack gc k hcb)
        · exact seg_leaf (.error y) (seg_cameBack gc k hcb)
      obtain ⟨acc, cc, r, I⟩ := hI
      refine seg_forLoop ?_
      rw [(gl _).over]
      rcases turn i m ys σ H w with ⟨stop, qn⟩ | ⟨go, N, hN, step⟩
      · refine wpAny_mono (T.done X rfl rfl rfl hc i _ s σ H X.xe I (stat fr) st stop) (fun r' s1 ⟨hr, I4⟩ => ?_) fun x s' hx => ee n s₀ x s' hx
        subst hr
        exact seg_leaf (.ok .next) (k.ok n ys s₀ s1 .next hn ⟨σ, H, ⟨acc, cc, r, I4⟩, qn⟩)
      · refine wpAny_mono (T.item X rfl rfl rfl hc i _ s σ H X.xe I (stat fr) st go) (fun r' s1 ⟨u, hr, h4⟩ => ?_) fun x s' hx => ee n s₀ x s' hx
        subst hr
        refine wpAny_mono h4 (fun _ s5 ⟨x, H5, I5, r5, y5, st5, fr5⟩ => ?_) fun x s' hx => ee n s₀ x s' hx
        have I5' := I5.pinned (stat fr5) (T.obj _ _ st5)
        refine wpAny_mono (hg.run _ s5 σ H5 x u _ I5' r5 (step x H5 y5)) (fun _ s6 ⟨σ6, H6, I6, q6⟩ => ?_) fun x s' hx => ee n s₀ x s' hx
        have hfS : ∀ q ∈ pinsAt fp s5.heap, q.1 ≠ S := fun q hq => by
          have hb : q.1 ∈ fp := (of_pinsAt hq).1
          obtain ⟨_, _, _, _, _, a5⟩ := f2 q.1 hb
          exact fun z => a5 (S, lstObj acc0 cc0) (List.mem_append_right _ List.mem_cons_self) z.symm
        have gc2 := gl (fun r => ((match r with | .ok f => (.pure f : Sem Flow) | .error e => .raise e).onRaise (cameBack X.env)).wrap K J gd lv)
        have gc3 : GC X S (ip ++ pinsAt fp s5.heap) A (.forLoop tg (.ref it) body [] X.env) (.ret (fun r => ((match r with | .ok f => (.pure f : Sem Flow) | .error e => .raise e).onRaise (cameBack X.env)).wrap K J gd lv) none (gd false) (lv []) c p [] :: fs) id :=
          ⟨gc2.pn, fun q hq => (List.mem_append.mp hq).elim (gc2.ip q) (hfS q), gc2.apart, gc2.over, gc2.split, gc2.guard, gc2.gd⟩
        have I6' : Inv X ((S, lstObj acc cc) :: (ip ++ pinsAt fp s5.heap)) σ6 H6 s6 := I6
        have again : ∀ {ys7 : List V} {σ7 : L2.St} {H7 : Hp} {s7 : Shared}, GI X S (ip ++ pinsAt fp s5.heap) ys7 σ7 H7 s7 → N ys7 σ7 H7 → ∃ m', m' < m ∧ W (i + 1) m' ys7 σ7 H7 ∧ GI X S ip ys7 σ7 H7 s7 ∧ tn (i + 1) s7.heap ∧ ∀ b ∈ fp, H7 b = none := fun {ys7 σ7 H7 s7} hI7 n7 => by
          obtain ⟨m', hm, w7⟩ := hN ys7 σ7 H7 n7
          obtain ⟨acc7, c7, r7, I7⟩ := hI7
          refine ⟨m', hm, w7, ⟨acc7, c7, r7, I7.pins_of fun q hq => I7.pin q ?_⟩, T.keep _ _ _ st5 fun b hb o e => ?_, fun b hb => ?_⟩
          · rcases List.mem_cons.mp hq with rfl | hq
            · exact List.mem_append_right _ List.mem_cons_self
            · exact List.mem_append_right _ (List.mem_cons_of_mem _ (List.mem_append_left _ hq))
          · exact (I7.pin (b, o) (List.mem_append_right _ (List.mem_cons_of_mem _ (List.mem_append_right _ (mem_pinsAt hb e))))).1
          · obtain ⟨o, e, d⟩ := T.obj _ _ st5 b hb
            exact (I7.pin (b, o) (List.mem_append_right _ (List.mem_cons_of_mem _ (List.mem_append_right _ (mem_pinsAt hb e))))).2.1
        have weak : ∀ {ys7 : List V} {σ7 : L2.St} {H7 : Hp} {s7 : Shared}, GI X S (ip ++ pinsAt fp s5.heap) ys7 σ7 H7 s7 → GI X S ip ys7 σ7 H7 s7 := fun {ys7 σ7 H7 s7} hI7 => by
          obtain ⟨acc7, c7, r7, I7⟩ := hI7
          refine ⟨acc7, c7, r7, I7.pins_of fun q hq => I7.pin q ?_⟩
          rcases List.mem_cons.mp hq with rfl | hq
          · exact List.mem_append_right _ List.mem_cons_self
          · exact List.mem_append_right _ (List.mem_cons_of_mem _ (List.mem_append_left _ hq))
        refine hb.run A S (ip ++ pinsAt fp s5.heap) R n ys s₀ _ _ _ _ id id s6 σ6 H6 { D with nx := N, ct := N, bk := D.nx } gc3 hn ⟨fun n' ys' s₀' s7 f hn' hs => ?_, fun n' s₀' x s7 hx => ee n' s₀' x s7 hx⟩ ⟨acc, cc, r, I6'⟩ q6
        cases f with
        | next =>
          obtain ⟨σ7, H7, I7, n7⟩ := hs
          obtain ⟨m', hm, w7, I7', t7, f7⟩ := again I7 n7
          exact seg_again rfl (ih m' hm (i + 1) n' ys' s₀' s7 σ7 H7 hn' w7 I7' t7 f7)
        | cont =>
          obtain ⟨σ7, H7, I7, n7⟩ := hs
          obtain ⟨m', hm, w7, I7', t7, f7⟩ := again I7 n7
          exact seg_again rfl (ih m' hm (i + 1) n' ys' s₀' s7 σ7 H7 hn' w7 I7' t7 f7)
        | brk =>
          obtain ⟨σ7, H7, I7, q7⟩ := hs
          exact seg_leaf (.ok .next) (k.ok n' ys' s₀' s7 .next hn' ⟨σ7, H7, weak I7, q7⟩)
        | ret v =>
          obtain ⟨x7, σ7, H7, I7, r7, q7⟩ := hs
          exact seg_leaf (.ok (.ret v)) (k.ok n' ys' s₀' s7 (.ret v) hn' ⟨x7, σ7, H7, weak I7, r7, q7⟩)
  exact loop m0 0 n ys s₀ s2 σ H2 hn w0 ⟨acc0, cc0, r0, I2⟩ st2 fun b hb => (f2 b hb).1
end
end DL
/-! ## a generator def with a star parameter -/
namespace DL
open PySem PySem.Spec PyProof.Rows L2 GenW
section
variable {P : Program} {w : World} {K : PySem.W.Frag} {mg : Str → Option Value} {base : Heap} {k : Nat} {f : Addr} {name qual : Str} {params : Arguments} {body : List Stmt} {scope : Scope} {dV kV doc pm cdv ct oc : Value} {an od : Option Addr}
    {osl : Array (Option Value)} {N ps : List Str}
/-- the pins of a generator's run: its own object -/
theorem gen_pin {X : Cx} {S : Addr} {ip : List (Addr × Obj)} {ys : List V} {s' : Shared} {σ' : L2.St} {H' : Hp} {a : Addr} {go : Obj} (h : GI X S ip ys σ' H' s') (hp : (a, go) ∈ X.pn) : s'.heap.get? a = some go :=
  let ⟨_, _, _, J⟩ := h; (J.pin (a, go) (List.mem_append_left _ hp)).1
/-- a generator that waits, made from its fresh frame -/
theorem gmade_of {A : Around} {outer : List PySem.Env} {s s1 : Shared} {H : Hp} {us : List Value} {vs : List V} {Q : List V → Hp → Prop} {E : XK} (S : GScope N ps scope) (hr : Room (k + 1) A) (e0 : Env0 P w K mg base A outer s H) (r : Vals vs us) (hl : vs.length = ps.length)
    (hbody : ∀ (Aw : Around) (pn : List (Addr × Obj)), Room k (Aw.deeper (envOfC qual scope s.heap.objs.size f cdv)) → ∃ t, GSs (gcxOf P w K mg base N qual scope f cdv Aw outer s H E pn) body t ∧ t { nx := fun ys _ H' => Q ys H', rt := fun ys v H' => v = .non ∧ Q ys H' } [] (start N vs) H)
    (x : InCallC s s.heap.objs.size (bindL (envOfC qual scope s.heap.objs.size f cdv).kindOf (ps.zip us) fun _ => none) (cellsFrom (s.heap.objs.size + 1) scope.names []) (bindC (envOfC qual scope s.heap.objs.size f cdv).kindOf (ps.zip us) fun _ => none) s1)
    {go : Obj} {nm qn : Value} (g1 : go.cls = .type "generator") (g2 : go.data = .fields #[.int s1.gens.size 0, nm, qn]) (g3 : go.slots = #[]) (g4 : ∀ h : Heap, (h.push go).get? h.objs.size = some go) (tk : Nat) :
    GMade P w (k + 1) outer H s [] Q E (.ref s1.heap.objs.size) { s1 with gens := s1.gens.push (.fresh (.func body (envOfC qual scope s.heap.objs.size f cdv))), toks := tk, heap := s1.heap.push go } := by
  have lim : s.heap.NoLimit := e0.mod.nolimit.keeps fun b o e => (e0.bs b o e).1
  have old := x.toInCall.keep
  have more : s.heap.objs.size < s1.heap.objs.size := x.toInCall.ns.lt
  have osg : s1.os = s.os ∧ s1.gens = s.gens := by
    obtain ⟨_, _, e, _⟩ := x.done
    rw [e]; exact ⟨rfl, rfl⟩
  have isG : ∀ h : Heap, h.get? s1.heap.objs.size = some go → h.IsGen s1.heap.objs.size s1.gens.size := fun h e => ⟨go, nm, qn, e, g1, g2, g3⟩
  refine ⟨s1.heap.objs.size, s1.gens.size, _, rfl, Nat.le_of_lt more, by (show _ < (s1.heap.push go).objs.size; rw [Heap.size_push]; exact Nat.lt_succ_self _), isG _ (g4 _), Array.getElem?_push_size .., osg.1, AllBare.push (by rw [osg.2]; exact e0.bare) rfl,
    (lim.keeps old).keeps fun b o e => Heap.get?_push_of_some _ e, fun b o e => Heap.get?_push_of_some _ (old b o e), fun Aw T s2 hrw hfr hT hk2 hL hos hba => ?_⟩
  obtain ⟨cL, eL⟩ := hL
  have eG : s2.heap.get? s1.heap.objs.size = some go := hk2 _ _ (g4 _)
  have I1 : Inv (gcxOf P w K mg base N qual scope f cdv Aw outer s H E []) [] (start N vs) H s1 := inv_startG S hrw.hd ⟨hfr, e0.mod, e0.bs, e0.bsz, e0.funs, e0.frf, e0.hok, e0.bare⟩ hl r x
  have kp2 : ∀ b o, s1.heap.get? b = some o → s2.heap.get? b = some o := fun b o e => hk2 b o (Heap.get?_push_of_some _ e)
  have I2 := I1.call' (ch := []) (hos.trans osg.1.symm) (Un.kept kp2) (I1.hok.kept kp2) hba fun b z => by simp at z
  have hlt : s1.heap.objs.size < T := by
    have : (s1.heap.push go).objs.size ≤ T := hT
    rw [Heap.size_push] at this; exact this
  obtain ⟨t, ht, hq⟩ := hbody Aw [(s1.heap.objs.size, go)] (hrw.deeper _)
  -- what is as young as the frame's objects is nobody's
  have yng : ∀ b : Addr, s1.heap.objs.size ≤ b → H b = none ∧ b ≠ s.heap.objs.size ∧ b ∉ frs outer ∧ s.heap.objs.size ≤ b ∧ ∀ y c, (cellsFrom (s.heap.objs.size + 1) scope.names []).lookup y = some c → c ≠ b := fun b hb =>
    ⟨I1.hok.fresh hb, Nat.ne_of_gt (Nat.lt_of_lt_of_le more hb), I1.nofs hb, Nat.le_trans (Nat.le_of_lt more) hb, fun y c e z => by
      obtain ⟨v, ob, ho, _⟩ := I1.cell y c e
      have := Heap.lt_size ho
      rw [z] at this
      exact absurd (Nat.lt_of_lt_of_le this hb) (Nat.lt_irrefl _)⟩
  have start_ : GI (gcxOf P w K mg base N qual scope f cdv Aw outer s H E [(s1.heap.objs.size, go)]) T [] [] (start N vs) H s2 := ⟨#[], cL, .nil, Inv.pinnedG I2 fun p hp => by
    have hp' : p = (s1.heap.objs.size, go) ∨ p = (T, lstObj #[] cL) := by simpa using hp
    rcases hp' with rfl | rfl
    · obtain ⟨y1, y2, y3, _⟩ := yng _ (Nat.le_refl _)
      exact ⟨eG, y1, y2, y3, fun v q => by rw [g2] at q; cases q⟩
    · obtain ⟨y1, y2, y3, _⟩ := yng T (Nat.le_of_lt hlt)
      exact ⟨eL, y1, y2, y3, fun v q => by cases q⟩⟩
  have apart_ : Apart (gcxOf P w K mg base N qual scope f cdv Aw outer s H E [(s1.heap.objs.size, go)]) T := let ⟨_, y2, _, y4, y5⟩ := yng T (Nat.le_of_lt hlt); ⟨y4, y2, y5⟩
  have inPn : (s1.heap.objs.size, go) ∈ (gcxOf P w K mg base N qual scope f cdv Aw outer s H E [(s1.heap.objs.size, go)]).pn := List.mem_singleton.mpr rfl
  refine seg_func (seg_imp (R := GR (gcxOf P w K mg base N qual scope f cdv Aw outer s H E [(s1.heap.objs.size, go)]) T (fun ys v H' => v = .non ∧ Q ys H') fun e s' => CX P w outer H s E e s' ∧ ∀ p ∈ [(s1.heap.objs.size, go)], s'.heap.get? p.1 = some p.2)
    (Y := GY (gcxOf P w K mg base N qual scope f cdv Aw outer s H E [(s1.heap.objs.size, go)]) T) (fun n s₀ r' s' hR => ?_) (fun n s₀ v s' kap kap' hkk hY => ?_) sizeLine ?_)
  · match r', hR with
    | .error e, ⟨q1, q2⟩ => exact .inr ⟨e, rfl, q1, isG _ (q2 (s1.heap.objs.size, go) (List.mem_singleton.mpr rfl))⟩
    | .ok (.ret u), ⟨ys, v, ip, σ', H', hn, hI, rv, ev, hQ⟩ =>
      subst ev
      have eu : u = Value.none := rv
      obtain ⟨a1, _, _, acc, cc, ra, ea⟩ := hI.at
      obtain ⟨_, _, _, J⟩ := hI
      exact .inl ⟨.inl (by rw [eu]), H', ys, acc, cc, J.os, J.bare, J.base, J.hok, a1, ea, ra, by omega, hQ⟩
  · obtain ⟨ys, xx, ip, σ', H', hn, h2, hI, h3⟩ := hY
    have hg := isG _ (gen_pin hI inPn)
    obtain ⟨_, _, _, acc, cc, ra, ea⟩ := hI.at
    obtain ⟨_, _, _, J⟩ := hI
    have hsz : acc.size = ys.length := by
      have := ra.length
      rw [Array.length_toList] at this
      exact this.symm
    exact ⟨J.os, J.bare, J.nolimit, hg, ⟨acc, cc, ea, by rw [hsz]; exact hn⟩, fun s' z => hkk _ _ (h3 s' z)⟩
  · refine ht.run Aw T [] _ sizeLine [] s2 _ [] _ _ id id s2 (start N vs) H _ ⟨fun p hp => ?_, fun p hp => (by simp at hp), apart_, over_func, rfl, rfl, rfl⟩ (Nat.add_zero _) ⟨fun n ys s₀ s' fl hn hs => ?_, fun n s₀ e s' hx => ?_⟩ start_ hq
    · have : p = (s1.heap.objs.size, go) := List.mem_singleton.mp hp
      rw [this]
      exact Nat.ne_of_lt hlt
    · match fl, hs with
      | .next, ⟨σ', H', hI, hQ⟩ => exact seg_end (.ok (.ret .none)) ⟨ys, .non, [], σ', H', hn, hI, rfl, rfl, hQ⟩
      | .brk, ⟨_, _, _, q⟩ => exact q.elim
      | .cont, ⟨_, _, _, q⟩ => exact q.elim
      | .ret u, ⟨v, σ', H', hI, rv, ev, hQ⟩ => exact seg_end (.ok (.ret u)) ⟨ys, v, [], σ', H', hn, hI, rv, ev, hQ⟩
    · refine seg_wrap ?_
      rw [over_func]
      refine wpAny_mono (show wpAny (model P w) (Aw.deeper (envOfC qual scope s.heap.objs.size f cdv)) (leaving (envOfC qual scope s.heap.objs.size f cdv) e) (fun _ s'' => CX P w outer H s E e s'' ∧ ∀ p ∈ [(s1.heap.objs.size, go)], s''.heap.get? p.1 = some p.2) (fun _ _ => False) s' from hx) (fun _ s'' q => ?_) fun _ s'' q => q.elim
      exact seg_end (.error e) q
/-- a generator def's promise, whatever binding makes -/
def GFnR (P : Program) (w : World) (K : PySem.W.Frag) (mg : Str → Option Value) (base : Heap) (k : Nat) (f : Addr) (sp : SpG) : Prop :=
  ∀ (A : Around) (outer : List PySem.Env) (s : Shared) (H : Hp) (us : List Value) (vs : List V) (Q : List V → Hp → Prop) (E : XK), Room k A → Env0 P w K mg base A outer s H → Vals vs us → sp vs H Q E →
    codeAny (model P w) A (.call (.ref f) ⟨us, []⟩) (fun r s' => match r with
      | .ok (.ret u) => ∃ H2 s2, s2.os = s.os ∧ AllBare s2.gens ∧ Un (frs outer) [] H H2 s.heap s2.heap ∧ HOk P w H2 s2.heap ∧ GMade P w k outer H2 s2 [] Q E u s'
      | _ => False) s
theorem gfnr_star {pv : Str} {sp : SpG} (lk : K.lookup f = some ⟨oc, od, .func (PySem.W.fnOf name qual params body scope dV kV doc pm an cdv ct), osl⟩) (hcd : PySem.W.codeIn K cdv qual = true) (S : GScope N (ps ++ [pv]) scope)
    (hb : ∀ us rest : List Value, us.length = ps.length → bindArgs (PySem.W.fnOf name qual params body scope dV kV doc pm an cdv ct) ⟨us ++ rest, []⟩ = (newTuple rest >>= fun t => pure (ps.zip us ++ [(pv, t)])))
    (hbody : ∀ (A : Around) (outer : List PySem.Env) (s : Shared) (H : Hp) (vs : List V) (Q : List V → Hp → Prop) (E : XK) (pn : List (Addr × Obj)), Room k (A.deeper (envOfC qual scope s.heap.objs.size f cdv)) → sp vs H Q E →
      ∃ t, GSs (gcxOf P w K mg base N qual scope f cdv A outer s H E pn) body t ∧ t { nx := fun ys _ H' => Q ys H', rt := fun ys v H' => v = .non ∧ Q ys H' } [] (start N vs) H) :
    GFnR P w K mg base (k + 1) f (fun vs H Q E => ∃ ws rest, vs = ws ++ rest ∧ ws.length = ps.length ∧ rest.length ≤ sizeLine ∧ ∀ p, H p = Option.none → sp (ws ++ [V.ref p]) (upd H p (.tup rest)) Q E) := by
  rintro A outer s H us vs Q E hr e0 r ⟨ws, rest, rfl, hl, hz, hq⟩
  obtain ⟨u1, u2, rfl, r1, r2⟩ := StX.vals_split r
  have KX : K.In s.heap := e0.mod.kin.keeps fun b o e => (e0.bs b o e).1
  have hn : H s.heap.objs.size = Option.none := e0.hok.fresh (Nat.le_refl _)
  have hl1 : u1.length = ps.length := by rw [← r1.length]; exact hl
  refine codeAny_call_generator hr.depth (KX _ _ lk) rfl S.co S.gen rfl (PySem.W.codeRec_of KX hcd) ?_
  rw [hb u1 u2 hl1]
  refine wpAny_bind (wpAny_newTuple (wpAny_pure ?_) (by rw [← r2.length]; exact hz))
  have new : ObjOk P w (upd H s.heap.objs.size (.tup rest)) (s.heap.push ({ cls := .type "tuple", data := .seq u2.toArray } : Obj)) s.heap.objs.size (.tup rest) := ⟨hz, u2, r2, ⟨_, Heap.get?_push_size _ rfl, rfl, _, rfl⟩⟩
  have e2 := StX.env0_laid e0 new
  have hzip : ps.zip u1 ++ [(pv, Value.ref s.heap.objs.size)] = (ps ++ [pv]).zip (u1 ++ [Value.ref s.heap.objs.size]) := by rw [List.zip_append hl1.symm]; rfl
  rw [hzip]
  have hkind : ∀ y ∈ (ps ++ [pv]).zip (u1 ++ [Value.ref s.heap.objs.size]), scope.names.lookup y.1 = some .local ∨ (scope.names.lookup y.1 = some .cell ∧ ((cellsFrom ((s.heap.push ({ cls := .type "tuple", data := .seq u2.toArray } : Obj)).objs.size + 1) scope.names []).lookup y.1).isSome = true) := fun y hy =>
    (S.par y.1 (List.of_mem_zip hy).1).imp id fun q => ⟨q, PySem.W.cellsFrom_some _ _ _ (.inl q)⟩
  refine wpAny_newFunctionEnv_cells (s := { s with heap := s.heap.push ({ cls := .type "tuple", data := .seq u2.toArray } : Obj) }) S.kind hkind fun env he s1 x => ?_
  subst he
  have lim : (s.heap.push ({ cls := .type "tuple", data := .seq u2.toArray } : Obj)).NoLimit := e0.mod.nolimit.keeps fun b o e => (e2.bs b o e).1
  refine ⟨lim.keeps x.toInCall.keep, _, { s with heap := s.heap.push ({ cls := .type "tuple", data := .seq u2.toArray } : Obj) }, rfl, e0.bare, StX.un_laid hn, e2.hok, ?_⟩
  exact gmade_of (vs := ws ++ [V.ref s.heap.objs.size]) (us := u1 ++ [Value.ref s.heap.objs.size]) S hr e2 (r1.append (.cons rfl .nil)) (by rw [List.length_append, List.length_append, hl]; rfl)
    (fun Aw pn hrw => hbody Aw outer _ _ _ Q E pn hrw (hq _ hn)) x rfl rfl rfl (fun h => Heap.get?_push_size _ rfl) _
end
end DL
/-! ## generators, in data -/
namespace DL
open PySem PySem.Spec PyProof.Rows L2 GenW
/-- a statement of a generator: what is out so far, the slots; what is out behind it -/
abbrev GF := List D → En → M (List D × Fl)
def EndsG (K : PySem.W.Frag) (Z : GEnds) : List D × Fl → Wd → Prop
  | (ds, .nx ρ), w => ∀ ys σ, w.repL K ds ys → RepE K w ρ σ → Z.nx ys σ w.H
  | (ds, .rt d), w => ∀ ys v, w.repL K ds ys → w.rep K d v → Z.rt ys v w.H
  | (ds, .bk ρ), w => ∀ ys σ, w.repL K ds ys → RepE K w ρ σ → Z.bk ys σ w.H
  | (ds, .ct ρ), w => ∀ ys σ, w.repL K ds ys → RepE K w ρ σ → Z.ct ys σ w.H
def tDGn (K : PySem.W.Frag) (mg : Str → Option Value) (E : XK) (f : GF) : TGn := fun Z ys σ H => ∃ (ds : List D) (ρ : En) (w : Wd), w.H = H ∧ w.Ok K ∧ w.repL K ds ys ∧ RepE K w ρ σ ∧ Fin K mg E w (f ds ρ w.s) (EndsG K Z)
abbrev DGn (X : Cx) (E : XK) (st : Stmt) (f : GF) : Prop := GS X st (tDGn X.K X.mg E f)
abbrev DGns (X : Cx) (E : XK) (sts : List Stmt) (f : GF) : Prop := GSs X sts (tDGn X.K X.mg E f)
section
variable {X : Cx} {E : XK} {st : Stmt} {rest : List Stmt} {f g : GF} {k : Nat}
theorem _root_.L2.GS.imp {t t' : TGn} (h : GS X st t) (k : ∀ Z ys σ H, t' Z ys σ H → t Z ys σ H) : GS X st t' := ⟨fun A S ip R n ys s₀ c fs K J gd lv s σ H D gc hn gk hI ht => h.run A S ip R n ys s₀ c fs K J gd lv s σ H D gc hn gk hI (k _ _ _ _ ht)⟩
theorem _root_.L2.GSs.imp {t t' : TGn} (h : GSs X rest t) (k : ∀ Z ys σ H, t' Z ys σ H → t Z ys σ H) : GSs X rest t' := ⟨fun A S ip R n ys s₀ c fs K J gd lv s σ H D gc hn gk hI ht => h.run A S ip R n ys s₀ c fs K J gd lv s σ H D gc hn gk hI (k _ _ _ _ ht)⟩
def gPl (f : En → M Fl) : GF := fun ys ρ => bnd (f ρ) fun fl => ret (ys, fl)
theorem dgn_pl {f : En → M Fl} (h : DS X E st f) : DGn X E st (gPl f) := (gs_ps h).imp fun Z ys σ H ⟨ds, ρ, w, e, ok, r, re, h⟩ => by
  subst e
  refine ⟨ρ, w, rfl, ok, re, (Fin.bind h).imp fun fl w1 l1 ok1 h1 => ?_⟩
  have h2 := fin_ret ok1 h1
  cases fl with
  | nx ρ' => exact fun σ' re' => h2 ys σ' (r.le l1) re'
  | rt d => exact fun v rv => h2 ys v (r.le l1) rv
  | bk ρ' => exact fun σ' re' => h2 ys σ' (r.le l1) re'
  | ct ρ' => exact fun σ' re' => h2 ys σ' (r.le l1) re'
def gNx : GF := fun ys ρ => ret (ys, .nx ρ)
theorem dgns_nil : DGns X E [] gNx := gss_nil.imp fun Z ys σ H ⟨ds, ρ, w, e, ok, r, re, h⟩ => by
  subst e
  exact fin_ret ok h ys σ r re
def gBnd (m : M (List D × Fl)) (k : List D → En → M (List D × Fl)) : M (List D × Fl) := bnd m fun p => match p with
  | (ys, .nx ρ) => k ys ρ
  | (ys, .rt d) => ret (ys, .rt d)
  | (ys, .bk ρ) => ret (ys, .bk ρ)
  | (ys, .ct ρ) => ret (ys, .ct ρ)
def gSeq (f g : GF) : GF := fun ys ρ => gBnd (f ys ρ) g
theorem dgns_cons (h1 : DGn X E st f) (h2 : DGns X E rest g) : DGns X E (st :: rest) (gSeq f g) := (gss_cons h1 h2).imp fun Z ys σ H ⟨ds, ρ, w, e, ok, r, re, h⟩ => by
  subst e
  refine ⟨ds, ρ, w, rfl, ok, r, re, (Fin.bind h).imp fun p w1 l1 ok1 h1 => ?_⟩
  obtain ⟨ds1, fl⟩ := p
  cases fl with
  | nx ρ' => exact fun ys' σ' r' re' => ⟨ds1, ρ', w1, rfl, ok1, r', re', h1⟩
  | rt d => exact fin_ret (Q := EndsG X.K Z) ok1 h1
  | bk ρ' => exact fin_ret (Q := EndsG X.K Z) ok1 h1
  | ct ρ' => exact fin_ret (Q := EndsG X.K Z) ok1 h1
def gYield (f : En → M D) : GF := fun ys ρ => if szOk (ys.length + 1) = true then bnd (f ρ) fun d => ret (ys ++ [d], .nx ρ) else stuck
theorem dgn_yield {e : Expr} {yp pos : Pos} {f : En → M D} (he : DE X E e f) (hco : X.env.scope.isCoroutine = false := by rfl) (hi : interactive X.env = false := by rfl) : DGn X E (.Expr (.Yield (some e) yp) pos) (gYield f) := (gs_yield he hco hi).imp fun Z ys σ H ⟨ds, ρ, w, e, ok, r, re, h⟩ => by
  subst e
  unfold gYield at h
  split at h
  · rename_i hz
    have := szOk_le hz
    rw [r.length] at this
    refine ⟨by omega, ρ, w, rfl, ok, re, (Fin.bind h).imp fun d w1 l1 ok1 h1 v rv => ?_⟩
    exact fin_ret ok1 h1 _ σ ((r.le l1).append (.cons rv .nil)) (re.le l1)
  · exact h.elim
/-- a loop over items, in a generator -/
def gforL (body : D → GF) : List D → GF
  | [], ys, ρ => ret (ys, .nx ρ)
  | d :: ds, ys, ρ => bnd (body d ys ρ) fun p => match p with
    | (ys', .nx ρ') => gforL body ds ys' ρ'
    | (ys', .ct ρ') => gforL body ds ys' ρ'
    | (ys', .rt d) => ret (ys', .rt d)
    | (ys', .bk ρ') => ret (ys', .nx ρ')
def gFor (fi : En → M (List D)) (g : D → En → M En) (fb : GF) : GF := fun ys ρ => bnd (fi ρ) fun ds => gforL (fun d ys ρ => bnd (g d ρ) fun ρ' => fb ys ρ') ds ys ρ
theorem dgn_for {body : List Stmt} {iter tg : Expr} {pos : Pos} {fi : En → M (List D)} {g : D → En → M En} (C : Ctl X E k) (hi : DI X E tg iter fi) (hg : DG X E tg g) (hb : DGns X E body f)
    (hs : ∀ x, foldedSetIterable iter X.env x = pure x := by intro _; rfl) : DGn X E (.For tg iter body [] pos) (gFor fi g f) := (gs_for C.own C.calm hi hg hb hs).imp fun Z ys σ H ⟨dys, ρ, w, e, ok, r, re, h⟩ => by
  subst e
  refine ⟨ρ, w, rfl, ok, re, (Fin.bind h).imp fun ds w1 l1 ok1 h1 J hJ => ?_⟩
  refine ⟨fun i m ys σ H => m = ds.length - i ∧ i ≤ ds.length ∧ ∃ (dys : List D) (ρ : En) (w : Wd), w.H = H ∧ w1.le w ∧ w.Ok X.K ∧ w.repL X.K dys ys ∧ RepE X.K w ρ σ ∧ Fin X.K X.mg E w (gforL (fun d ys ρ => bnd (g d ρ) fun ρ' => f ys ρ') (ds.drop i) dys ρ w.s) (EndsG X.K Z),
    ⟨ds.length, rfl, Nat.zero_le _, dys, ρ, w1, rfl, Wd.le.refl _, ok1, r.le l1, re.le l1, h1⟩, ?_⟩
  rintro i m ys2 σ2 H2 ⟨rfl, hle, dys2, ρ2, w2, rfl, l2, ok2, r2, re2, h2⟩
  by_cases hlt : i < ds.length
  · have hd : ds[i]? = some ds[i] := List.getElem?_eq_getElem hlt
    rw [List.drop_eq_getElem_cons hlt] at h2
    refine .inr ⟨hJ.go w2 i l2.le0 ok2 hlt, fun ys' σ' H' => ∃ (dys : List D) (ρ : En) (w : Wd), w.H = H' ∧ w1.le w ∧ w.Ok X.K ∧ w.repL X.K dys ys' ∧ RepE X.K w ρ σ' ∧ Fin X.K X.mg E w (gforL (fun d ys ρ => bnd (g d ρ) fun ρ' => f ys ρ') (ds.drop (i + 1)) dys ρ w.s) (EndsG X.K Z),
      fun ys' σ' H' p' => ⟨ds.length - (i + 1), by omega, rfl, hlt, p'⟩, fun x H' y => ?_⟩
    obtain ⟨w3, l3, ok3, es, eh, r3⟩ := hJ.yld w2 i _ x H' l2.le0 ok2 hd y
    subst eh
    have h3 : Fin X.K X.mg E w3 (gforL (fun d ys ρ => bnd (g d ρ) fun ρ' => f ys ρ') (ds[i] :: ds.drop (i + 1)) dys2 ρ2 w3.s) (EndsG X.K Z) := by
      rw [es]; exact h2.up l3
    have h4 := Fin.bind h3
    refine ⟨ds[i], ρ2, w3, rfl, ok3, r3, re2.le l3, (Fin.bind h4).imp fun ρ4 w4 l4 ok4 h5 σ4 re4 => ?_⟩
    refine ⟨dys2, ρ4, w4, rfl, ok4, (r2.le l3).le l4, re4, h5.imp fun p w5 l5 ok5 h6 => ?_⟩
    have l05 : w1.le w5 := ((l2.trans l3).trans l4).trans l5
    obtain ⟨dys5, fl⟩ := p
    cases fl with
    | nx ρ5 => exact fun ys5 σ5 r5 re5 => ⟨dys5, ρ5, w5, rfl, l05, ok5, r5, re5, h6⟩
    | ct ρ5 => exact fun ys5 σ5 r5 re5 => ⟨dys5, ρ5, w5, rfl, l05, ok5, r5, re5, h6⟩
    | rt d => exact fin_ret (Q := EndsG X.K Z) ok5 h6
    | bk ρ5 => exact fin_ret (Q := EndsG X.K Z) ok5 h6
  · have hi' : i = ds.length := by omega
    subst hi'
    rw [List.drop_length] at h2
    exact .inl ⟨hJ.stop w2 _ l2.le0 ok2 (Nat.le_refl _), fin_ret (Q := EndsG X.K Z) ok2 h2 _ σ2 r2 re2⟩
end
/-! ### generator defs -/
/-- a generator def's promise by its mirror -/
def spG (K : PySem.W.Frag) (mg : Str → Option Value) (m : List D → M (List D)) : SpG := fun vs H cont E => ∃ (ds : List D) (w : Wd), w.H = H ∧ w.Ok K ∧ w.repL K ds vs ∧ Fin K mg E w (m ds w.s) fun ys w' => ∀ us, w'.repL K ys us → cont us w'.H
structure DefG (P : Program) (w : World) (K : PySem.W.Frag) (mg : Str → Option Value) (base : Heap) (k : Nat) (x : Str) (m : List D → M (List D)) : Prop where
  ex : ∃ f : Addr, mg x = some (.ref f) ∧ PySem.W.keepIn K (.ref f) = true ∧ GFnR P w K mg base k f (spG K mg fun ds => noEr (m ds))
def flOutG : List D × Fl → M (List D)
  | (ys, .nx _) => ret ys
  | (ys, .rt .non) => ret ys
  | _ => stuck
def mkG (np nn : Nat) (fb : GF) : List D → M (List D) := fun ds => if ds.length = np then bnd (fb [] (ds.map some ++ List.replicate (nn - np) none)) flOutG else stuck
def starG (np : Nat) (m : List D → M (List D)) : List D → M (List D) := fun ds => if (decide (np ≤ ds.length) && szOk ds.length) = true then m (ds.take np ++ [.tup (ds.drop np)]) else stuck
section
variable {P : Program} {w : World} {K : PySem.W.Frag} {mg : Str → Option Value} {base : Heap}
theorem mkG_len {E : XK} {np nn : Nat} {fb : GF} {ds : List D} {wd : Wd} {Q : List D → Wd → Prop} (h : Fin K mg E wd (mkG np nn fb ds wd.s) Q) : ds.length = np := by
  unfold mkG at h
  by_cases hl : ds.length = np
  · exact hl
  · rw [if_neg hl] at h; exact h.elim
theorem Fin.noE {K : PySem.W.Frag} {mg : Str → Option Value} {E E' : XK} {α : Type} {m : M α} {w : Wd} {Q : α → Wd → Prop} (h : Fin K mg E w (noEr m w.s) Q) : Fin K mg E' w (m w.s) Q := by
  unfold noEr at h
  cases hm : m w.s with
  | ok a s => rw [hm] at h; exact h
  | er c s => rw [hm] at h; exact h.elim
  | no => rw [hm] at h; exact h.elim
theorem Fin.noE2 {K : PySem.W.Frag} {mg : Str → Option Value} {E E' : XK} {α : Type} {m : M α} {w : Wd} {Q : α → Wd → Prop} (h : Fin K mg E w (noEr m w.s) Q) : Fin K mg E' w (noEr m w.s) Q := by
  unfold noEr at h ⊢
  cases hm : m w.s with
  | ok a s => rw [hm] at h; exact h
  | er c s => rw [hm] at h; exact h.elim
  | no => rw [hm] at h; exact h
/-- the context of a generator's body -/
theorem ctl_ofG {N : List Str} {qual : Str} {scope : Scope} {f : Addr} {cd : Value} {A : Around} {outer : List PySem.Env} {s : Shared} {H : Hp} {E : XK} {pn : List (Addr × Obj)} {k : Nat} (hN : N.Nodup) (hr : Room k (A.deeper (envOfC qual scope s.heap.objs.size f cd))) :
    Ctl (gcxOf P w K mg base N qual scope f cd A outer s H E pn) E0 k :=
  ⟨rfl, hN, owns_gcx, takesN, hr⟩
theorem DefG.mk' {x qual pv : Str} {st : Stmt} {f : Addr} {fd : FuncData} {N ps : List Str} {k : Nat} {fb : GF} (F : Fun K x qual st f fd) (hm : mg x = some (.ref f)) (S : GScope N (ps ++ [pv]) (defScope st))
    (hb : ∀ (kV doc pm : Value) (an : Option Addr) (cdv ct : Value) (us rest : List Value), us.length = ps.length → bindArgs (PySem.W.fnOf x qual (defArgs st) (defBody st) (defScope st) .none kV doc pm an cdv ct) ⟨us ++ rest, []⟩ = (newTuple rest >>= fun t => pure (ps.zip us ++ [(pv, t)])))
    (body : ∀ (E : XK) (cdv : Value) (A : Around) (outer : List PySem.Env) (s : Shared) (H : Hp) (pn : List (Addr × Obj)), Ctl (gcxOf P w K mg base N qual (defScope st) f cdv A outer s H E pn) E0 k → DGns (gcxOf P w K mg base N qual (defScope st) f cdv A outer s H E pn) E0 (defBody st) fb) :
    DefG P w K mg base (k + 1) x (starG ps.length (mkG (ps.length + 1) N.length fb)) := by
  obtain ⟨⟨oc, od, kV, doc, pm, an, cdv, ct, osl, e, lk, hcd⟩, kp⟩ := F
  have G := gfnr_star (P := P) (w := w) (mg := mg) (base := base) (k := k) (sp := spG K mg fun ds => noEr (mkG (ps.length + 1) N.length fb ds)) (by rw [← e]; exact lk) hcd S (hb kV doc pm an cdv ct) fun A outer s H vs Q E pn hr h => by
    obtain ⟨ds, wd, rfl, ok, r, h⟩ := h
    have h := Fin.noE (E' := E0) h
    have hl := mkG_len h
    refine ⟨_, body E cdv A outer s wd.H pn (ctl_ofG S.nd hr), ?_⟩
    unfold mkG at h
    rw [if_pos hl, ← hl] at h
    refine ⟨[], _, wd, rfl, ok, .nil, repE_start r, (Fin.bind h).imp fun p w1 l1 ok1 h1 => ?_⟩
    obtain ⟨ys, fl⟩ := p
    cases fl with
    | nx ρ => exact fun us _ ru _ => fin_ret ok1 h1 us ru
    | rt d =>
      cases d with
      | non =>
        intro us v ru rv
        cases rv
        exact ⟨rfl, fin_ret ok1 h1 us ru⟩
      | gl _ => exact h1.elim
      | bl _ => exact h1.elim
      | int _ => exact h1.elim
      | str _ => exact h1.elim
      | tup _ => exact h1.elim
      | lst _ => exact h1.elim
      | fz _ => exact h1.elim
      | loc _ => exact h1.elim
    | bk ρ => exact h1.elim
    | ct ρ => exact h1.elim
  refine ⟨f, hm, kp, fun A outer s H us vs Q E hr e0 rv h => G A outer s H us vs Q E hr e0 rv ?_⟩
  obtain ⟨ds, wd, rfl, ok, r, h⟩ := h
  have e : ∀ b : Bool, b = (decide (ps.length ≤ ds.length) && szOk ds.length) → noEr (starG ps.length (mkG (ps.length + 1) N.length fb) ds) = if b = true then noEr (mkG (ps.length + 1) N.length fb (ds.take ps.length ++ [.tup (ds.drop ps.length)])) else stuck := fun b hb => by
    subst hb
    unfold starG
    split <;> rfl
  have h : Fin K mg E wd (noEr (starG ps.length (mkG (ps.length + 1) N.length fb) ds) wd.s) _ := h
  rw [e _ rfl] at h
  split at h
  · rename_i hc
    rw [Bool.and_eq_true] at hc
    have hn := of_decide_eq_true hc.1
    have hz := szOk_le hc.2
    have hl := r.length
    refine ⟨vs.take ps.length, vs.drop ps.length, (List.take_append_drop _ _).symm, by rw [List.length_take]; omega, by rw [List.length_drop]; omega, fun p hp => ?_⟩
    obtain ⟨ok', l'⟩ := ok.newI hp (.tup (vs.drop ps.length))
    refine ⟨ds.take ps.length ++ [.tup (ds.drop ps.length)], _, rfl, ok', ?_, Fin.up h l'⟩
    exact ((r.take _).le l').append (.cons (.tup upd_same ((r.drop _).le l')) .nil)
  · exact h.elim
end
/-! ### list(f(..)), f a generator def -/
def eListG (fa : En → M (List D)) (m : List D → M (List D)) : En → M D := fun ρ => bnd (fa ρ) fun ds => bnd (noEr (m ds)) mkLst
section
variable {X : Cx} {E : XK} {pos p pos2 p2 : Pos} {x : Str} {e : Expr} {es : List Expr} {fa : En → M (List D)} {k j : Nat} {m : List D → M (List D)}
theorem de_listG (C : Ctl X E k) (F : DefG X.prog X.w X.K X.mg X.base j x m) (ha : DA X E (e :: es) fa) (hml : X.mg "list" = none) (hk : j + 3 ≤ k := by decide) (hg : Gl X x := by rfl) (hgl : Gl X "list" := by rfl) (hdb : (x == ("__debug__" : Str)) = false := by decide)
    (he : starEach (e :: es) X.env = (false, eval e X.env) :: starEach es X.env := by rfl) (hpl : (backTo pos2 (starEach es X.env)).any (·.1) = false := by rfl)
    (he1 : starEach [.Call (.Name x p2) (e :: es) [] pos2] X.env = (false, eval (.Call (.Name x p2) (e :: es) [] pos2) X.env) :: starEach [] X.env := by rfl) :
    DE X E (.Call (.Name "list" p) [.Call (.Name x p2) (e :: es) [] pos2] [] pos) (eListG fa m) := by
  obtain ⟨f, h1, h2, h4⟩ := F.ex
  have hrk : Room (j + 3) X.A := C.room.mono hk
  have hrj : Room j X.A := C.room.mono (by omega)
  have PG0 : PGen X j (.Call (.Name x p2) (e :: es) [] pos2) (fun σ H cont => tDA X.K X.mg E fa σ H fun vs H1 => spG X.K X.mg (fun ds => noEr (m ds)) vs H1 cont E0) E0 := ⟨fun pins s σ H cont I h => by
    refine wpAny_Call_Name_kw (ld_glob I hg h1 ?_ hdb)
    refine PySem.W.callWith_K (h₀ := X.base) I.ok.mod.kin h2 (thn (ha.run pos2 pins s σ H _ I h) fun us s1 ⟨vs, H1, I1, r, q⟩ => ⟨I1.kIn, ?_⟩) he hpl
    refine wpAny_call (codeAny_mono (h4 X.A X.stack s1 H1 us vs cont E0 hrj I1.env0 r q) fun r s' hq => ?_)
    match r, hq with
    | .ok (.ret u), ⟨H2, s2, q1, q2, q3, q4, q5⟩ => exact ⟨H2, s2, [], I1.call' (ch := []) q1 q3 q4 q2 (fun b z => by simp at z), .nil, q5⟩⟩
  refine (pe_listG PG0 passL (fun _ _ _ z => z.elim) hrk hgl hml (by decide +kernel) (by decide) (by decide) he1).imp fun σ H Q ⟨ρ, w, e, ok, re, h⟩ => ?_
  subst e
  refine ⟨ρ, w, rfl, ok, re, (Fin.bind h).imp fun ds w1 l1 ok1 h1 vs rv => ?_⟩
  refine ⟨ds, w1, rfl, ok1, rv, (Fin.noE2 (Fin.bind h1)).imp fun ys w2 l2 ok2 h2 us ru => ?_⟩
  exact (fin_lst ok2 ru h2).2
end
end DL
namespace DL
open PySem PySem.Spec PyProof.Rows L2
/-! a, b, c = x, y, z -/
def sPar3 (i j l : Nat) (f1 f2 f3 : En → M D) : En → M Fl := fun ρ => bnd (f1 ρ) fun x => bnd (f2 ρ) fun y => bnd (f3 ρ) fun z => ret (.nx (((ρ.set i (some x)).set j (some y)).set l (some z)))
theorem ds_par3 {X : Cx} {E : XK} {pos : Pos} {e1 e2 e3 : Expr} {f1 f2 f3 : En → M D} {k : Nat} (i j l : Nat) (C : Ctl X E k) {x y z : Str} {px py pz pt pt2 : Pos} {kt k2 : Nat} (ha : DE X E e1 f1) (hb : DE X E e2 f2) (hc : DE X E e3 f3) (hi : X.N[i]? = some x := by rfl) (hj : X.N[j]? = some y := by rfl) (hl : X.N[l]? = some z := by rfl)
    (hij : i ≠ j := by decide) (hil : i ≠ l := by decide) (hjl : j ≠ l := by decide)
    (hx : X.env.scope.names.lookup x = some .local := by rfl) (hy : X.env.scope.names.lookup y = some .local := by rfl) (hz : X.env.scope.names.lookup z = some .local := by rfl)
    (n1 : starEach [e1, e2, e3] X.env = (false, eval e1 X.env) :: starEach [e2, e3] X.env := by rfl) (n2 : starEach [e2, e3] X.env = (false, eval e2 X.env) :: starEach [e3] X.env := by rfl) (n3 : starEach [e3] X.env = (false, eval e3 X.env) :: starEach [] X.env := by rfl)
    (hw : swappedStores [.Tuple [.Name x px, .Name y py, .Name z pz] kt pt] (.Tuple [e1, e2, e3] k2 pt2) X.env = pure (some [x, y, z]) := by rfl)
    (hs : swapsWithSole [.Tuple [.Name x px, .Name y py, .Name z pz] kt pt] (.Tuple [e1, e2, e3] k2 pt2) pos.line X.env = pure false := by rfl) :
    DS X E (.Assign [.Tuple [.Name x px, .Name y py, .Name z pz] kt pt] (.Tuple [e1, e2, e3] k2 pt2) pos) (sPar3 i j l f1 f2 f3) := (ps_par3 C.calm C.nd hi hj hl hij hil hjl hx hy hz (pa_cons ha (pa_cons hb (pa_cons hc pa_nil n3) n2) n1) hw hs).imp fun Z σ H ⟨ρ, w, e, ok, re, h⟩ => by
  subst e
  refine ⟨ρ, w, rfl, ok, re, (Fin.bind h).imp fun d1 w1 l1 ok1 h1 v rv => ?_⟩
  refine ⟨ρ, w1, rfl, ok1, re.le l1, (Fin.bind h1).imp fun d2 w2 l2 ok2 h2 u ru => ?_⟩
  refine ⟨ρ, w2, rfl, ok2, re.le (l1.trans l2), (Fin.bind h2).imp fun d3 w3 l3 ok3 h3 t rt => ?_⟩
  exact ⟨v, u, t, rfl, fin_ret (Q := EndsQ X.K Z) ok3 h3 _ ((((re.le ((l1.trans l2).trans l3)).set i ((rv.le l2).le l3)).set j (ru.le l3)).set l rt)⟩
end DL

namespace DL
open PySem

/-! ## plain reasoning about mirrors -/
theorem bnd_stuck {α β : Type} (k : α → M β) : bnd stuck k = stuck := rfl
def runs {α : Type} (m : M α) (s : Sto) (Q : α → Sto → Prop) : Prop := ∃ a s', m s = .ok a s' ∧ Q a s'
theorem runs_ret {α : Type} {a : α} {s : Sto} {Q : α → Sto → Prop} (h : Q a s) : runs (ret a) s Q := ⟨a, s, rfl, h⟩
theorem runs_bnd {α β : Type} {m : M α} {k : α → M β} {s : Sto} {Q : β → Sto → Prop} (h : runs m s fun a s' => runs (k a) s' Q) : runs (bnd m k) s Q := by
  obtain ⟨a, s', e, b, s2, e2, q⟩ := h
  refine ⟨b, s2, ?_, q⟩
  show (m s).bind k = _
  rw [e]; exact e2
theorem runs_mono {α : Type} {m : M α} {s : Sto} {Q Q' : α → Sto → Prop} (h : runs m s Q) (k : ∀ a s', Q a s' → Q' a s') : runs m s Q' :=
  let ⟨a, s', e, q⟩ := h; ⟨a, s', e, k a s' q⟩
theorem runs_seq {α β : Type} {m : M α} {k : α → M β} {s : Sto} {P : α → Sto → Prop} {Q : β → Sto → Prop} (h : runs m s P) (h2 : ∀ a s', P a s' → runs (k a) s' Q) : runs (bnd m k) s Q :=
  runs_bnd (runs_mono h h2)
theorem runs_for {body : D → En → M Fl} (I : Nat → En → Sto → Prop) {ds : List D} {ρ : En} {s : Sto} {Q : Fl → Sto → Prop} (h0 : I 0 ρ s)
    (hs : ∀ (i : Nat) (d : D) (ρ : En) (s : Sto), ds[i]? = some d → I i ρ s → runs (body d ρ) s fun fl s' => ∃ ρ', fl = .nx ρ' ∧ I (i + 1) ρ' s')
    (hd : ∀ ρ s, I ds.length ρ s → Q (.nx ρ) s) : runs (forL body ds ρ) s Q := by
  have go : ∀ (l : List D) (j : Nat) (ρ : En) (s : Sto), ds.drop j = l → j + l.length = ds.length → I j ρ s → runs (forL body l ρ) s Q := by
    intro l
    induction l with
    | nil =>
      intro j ρ s hl hj h
      have e : j = ds.length := by simpa using hj
      subst e
      exact runs_ret (hd ρ s h)
    | cons d l ih =>
      intro j ρ s hl hj h
      have hd' : ds[j]? = some d := by
        have := congrArg (fun x => x[0]?) hl
        simpa using this
      refine runs_bnd (runs_mono (hs j d ρ s hd' h) ?_)
      rintro fl s' ⟨ρ', rfl, h'⟩
      refine ih (j + 1) ρ' s' ?_ (by rw [List.length_cons] at hj; omega) h'
      have := congrArg List.tail hl
      rw [List.tail_drop] at this
      exact this
  exact go ds 0 ρ s rfl (by omega) h0
/-- a loop's turns leave nothing that may go on but nx -/
theorem runs_while {c : En → M Bool} {b : En → M Fl} (I : Nat → En → Sto → Prop) : ∀ {n : Nat} {ρ : En} {s : Sto} {Q : Fl → Sto → Prop}, I n ρ s →
    (∀ (m : Nat) ρ s, I m ρ s → runs (c ρ) s fun k s' => if k = true then ∃ m', m = m' + 1 ∧ runs (b ρ) s' fun fl s2 => ∃ ρ', fl = .nx ρ' ∧ I m' ρ' s2 else Q (.nx ρ) s') → runs (whileF c b (n + 1) ρ) s Q := by
  intro n
  induction n with
  | zero =>
    intro ρ s Q h0 hs
    refine runs_bnd (runs_mono (hs 0 ρ s h0) fun k s' hk => ?_)
    cases k with
    | false => exact runs_ret hk
    | true => obtain ⟨m', e, _⟩ := hk; cases e
  | succ n ih =>
    intro ρ s Q h0 hs
    refine runs_bnd (runs_mono (hs (n + 1) ρ s h0) fun k s' hk => ?_)
    cases k with
    | false => exact runs_ret hk
    | true =>
      obtain ⟨m', e, h⟩ := hk
      cases e
      refine runs_bnd (runs_mono h ?_)
      rintro fl s2 ⟨ρ', rfl, h2⟩
      exact ih h2 hs
/-! operators on known data -/
section
variable {i j : Int} {s : Sto} {xs ys : List D} {a b : D}
theorem p_add_int : addD (.int i) (.int j) = ret (.int (i + j)) := rfl
theorem p_sub_int : subD (.int i) (.int j) = ret (.int (i - j)) := rfl
theorem p_mul_int (h : (-18446744073709551616 < i ∧ i < 18446744073709551616) ∨ (-18446744073709551616 < j ∧ j < 18446744073709551616)) : mulD (.int i) (.int j) = ret (.int (i * j)) := by
  funext s
  show (if cMul i j = true then R.ok (D.int (i * j)) s else .no) = _
  rw [if_pos (show cMul i j = true from decide_eq_true h)]; rfl
theorem p_div_int (h : 0 < j ∧ j < 1073741824) : divD (.int i) (.int j) = ret (.int (i / j)) := by
  funext s
  show (if cDiv i j = true then R.ok (D.int (i / j)) s else .no) = _
  rw [if_pos (show cDiv i j = true from decide_eq_true h)]; rfl
theorem p_mod_int (h : 0 < j) : modD (.int i) (.int j) = ret (.int (i % j)) := by
  funext s
  show (if cPos i j = true then R.ok (D.int (i % j)) s else .no) = _
  rw [if_pos (show cPos i j = true from decide_eq_true h)]; rfl
theorem p_pow_int (h : 0 ≤ j ∧ j ≤ 1000000 ∧ -18446744073709551616 < i ∧ i < 18446744073709551616) : powD (.int i) (.int j) = ret (.int (i ^ j.toNat)) := by
  funext s
  show (if cPow i j = true then R.ok (D.int (i ^ j.toNat)) s else .no) = _
  rw [if_pos (show cPow i j = true from decide_eq_true h)]; rfl
theorem p_lt_int : ltD (.int i) (.int j) = ret (.bl (decide (i < j))) := rfl
theorem p_le_int : leD (.int i) (.int j) = ret (.bl (decide (i ≤ j))) := rfl
theorem p_gt_int : gtD (.int i) (.int j) = ret (.bl (decide (j < i))) := rfl
theorem p_ge_int : geD (.int i) (.int j) = ret (.bl (decide (j ≤ i))) := rfl
theorem p_ok_int : okD (.int i) = true := rfl
theorem p_ok_bl {c : Bool} : okD (.bl c) = true := rfl
theorem p_ok_non : okD .non = true := rfl
theorem p_eq_int : eqD (.int i) (.int j) = ret (.bl (i == j)) := by
  funext s; rfl
theorem p_ne_int : neD (.int i) (.int j) = ret (.bl (!(i == j))) := by
  funext s; rfl
theorem p_eq_bl {c d : Bool} : eqD (.bl c) (.bl d) = ret (.bl (c == d)) := by
  funext s; rfl
theorem p_ne_bl {c d : Bool} : neD (.bl c) (.bl d) = ret (.bl (!(c == d))) := by
  funext s; rfl
theorem p_is_bl {c d : Bool} : isD (.bl c) (.bl d) = ret (.bl (decide (c = d))) := rfl
theorem p_isnt_bl {c d : Bool} : isntD (.bl c) (.bl d) = ret (.bl (!decide (c = d))) := rfl
theorem p_is_non : isD a .non = ret (.bl a.isNon) := rfl
theorem p_isnt_non : isntD a .non = ret (.bl (!a.isNon)) := rfl
theorem p_ix_tnat {n : Nat} (h : xs[n]? = some a) : ixD (.tup xs) (.int n) = ret a := by
  funext s
  show (match L2.atI xs n with | some d => R.ok d s | none => .no) = _
  rw [L2.atI_nat h]; rfl
theorem p_ix_t0 : ixD (.tup (a :: xs)) (.int 0) = ret a := p_ix_tnat (n := 0) rfl
theorem p_ix_t1 : ixD (.tup (a :: b :: xs)) (.int 1) = ret b := p_ix_tnat (n := 1) rfl
theorem p_ix_t2 {c : D} : ixD (.tup (a :: b :: c :: xs)) (.int 2) = ret c := p_ix_tnat (n := 2) rfl
theorem p_ix_nat {n : Nat} (h : xs[n]? = some a) : ixD (.lst xs) (.int n) = ret a := by
  funext s
  show (match L2.atI xs n with | some d => R.ok d s | none => .no) = _
  rw [L2.atI_nat h]; rfl
theorem p_ix_mem (h0 : 0 ≤ i) (h : i < xs.length) : ∃ a, a ∈ xs ∧ xs[i.toNat]? = some a ∧ ixD (.lst xs) (.int i) = ret a := by
  have hl : i.toNat < xs.length := by omega
  refine ⟨xs[i.toNat], List.getElem_mem hl, List.getElem?_eq_getElem hl, ?_⟩
  have e : ((i.toNat : Nat) : Int) = i := by omega
  have h2 := p_ix_nat (List.getElem?_eq_getElem hl)
  rw [e] at h2
  exact h2
theorem p_asB_bl {c : Bool} : asB (.bl c) = ret c := rfl
theorem p_asI_int : asI (.int i) = ret i := rfl
theorem p_mkTup_of (h : szOk xs.length = true) : mkTup xs = ret (.tup xs) := by unfold mkTup; rw [if_pos h]
theorem p_mkLst_of (h : szOk xs.length = true) : mkLst xs = ret (.lst xs) := by unfold mkLst; rw [if_pos h]
theorem p_on1_ {g : D → M D} : on1 g [a] = g a := rfl
theorem p_on2_ {g : D → D → M D} : on2 g [a, b] = g a b := rfl
theorem p_min_int : min2D (.int i) (.int j) = ret (.int (if j < i then j else i)) := rfl
theorem p_max_int : max2D (.int i) (.int j) = ret (.int (if j > i then j else i)) := rfl
theorem p_abs_int : absD (.int i) = ret (.int (if i < 0 then -i else i)) := rfl
theorem p_len_lst : lenD (.lst xs) = ret (.int (xs.length : Nat)) := rfl
theorem p_len_tup : lenD (.tup xs) = ret (.int (xs.length : Nat)) := rfl
theorem p_items_lst : itemsD (.lst xs) = ret xs := rfl
theorem p_items_tup : itemsD (.tup xs) = ret xs := rfl
theorem p_range1_int (h : smI i = true) : rangeD1 [.int i] = ret (rgD 0 i.toNat) := by
  funext s
  show (if smI i = true then R.ok (rgD 0 i.toNat) s else .no) = _
  rw [if_pos h]; rfl
theorem p_range2_int (h : (smI i && smI j) = true) : rangeD [.int i, .int j] = ret (rgD i (j - i).toNat) := by
  funext s
  show (if (smI i && smI j) = true then R.ok (rgD i (j - i).toNat) s else .no) = _
  rw [if_pos h]; rfl
theorem p_add_lst (h : szOk (xs ++ ys).length = true) : addD (.lst xs) (.lst ys) = ret (.lst (xs ++ ys)) := by
  funext s
  show mkLst (xs ++ ys) s = _
  rw [p_mkLst_of h]
theorem p_rgM_int (h : rgOk i j = true) : rgM (.int i) (.int j) = ret (.lst (rgD i (j - i).toNat)) := by
  funext s
  show (if rgOk i j = true then R.ok _ s else .no) = _
  rw [if_pos h]; rfl
theorem p_isi_int {T : Ty} : isiD T (.int i) = ret (.bl (isi .int T)) := rfl
theorem p_isi_bl {T : Ty} {c : Bool} : isiD T (.bl c) = ret (.bl (isi .bool T)) := rfl
theorem p_isi_tup {T : Ty} : isiD T (.tup xs) = ret (.bl (isi .tup T)) := rfl
theorem p_isi_lst {T : Ty} : isiD T (.lst xs) = ret (.bl (isi .lst T)) := rfl
theorem p_isi_non {T : Ty} : isiD T .non = ret (.bl (isi .non T)) := rfl
theorem p_isis_int {T : List Ty} : isiDs T (.int i) = ret (.bl (T.any fun t => isi .int t)) := rfl
theorem p_isis_bl {T : List Ty} {c : Bool} : isiDs T (.bl c) = ret (.bl (T.any fun t => isi .bool t)) := rfl
theorem p_isis_non {T : List Ty} : isiDs T .non = ret (.bl (T.any fun t => isi .non t)) := rfl
end
theorem bnd_ite {α β : Type} {c : Prop} [Decidable c] {m n : M α} {k : α → M β} : bnd (if c then m else n) k = if c then bnd m k else bnd n k := by split <;> rfl
/-- a comprehension that only reckons -/
theorem lcL_map {body : D → M (Option D)} {g : D → Option D} : ∀ {ds : List D}, (∀ d ∈ ds, body d = ret (g d)) → lcL body ds = ret (ds.filterMap g)
  | [], _ => rfl
  | d :: ds, h => by
    show bnd (body d) (fun o => bnd (lcL body ds) fun ys => ret (match o with | some y => y :: ys | none => ys)) = _
    rw [h d List.mem_cons_self, lcL_map (fun x hx => h x (List.mem_cons_of_mem _ hx))]
    show ret _ = ret _
    cases q : g d <;> simp [q]
theorem p_len_tup0 {a b c d e : D} : lenD (.tup []) = ret (.int 0) := rfl
theorem p_len_tup1 {a b c d e : D} : lenD (.tup [a]) = ret (.int 1) := rfl
theorem p_len_tup2 {a b c d e : D} : lenD (.tup [a, b]) = ret (.int 2) := rfl
theorem p_len_tup3 {a b c d e : D} : lenD (.tup [a, b, c]) = ret (.int 3) := rfl
theorem p_len_tup4 {a b c d e : D} : lenD (.tup [a, b, c, d]) = ret (.int 4) := rfl
theorem p_len_tup5 {a b c d e : D} : lenD (.tup [a, b, c, d, e]) = ret (.int 5) := rfl
theorem p_len_lst0 {a b c d e : D} : lenD (.lst []) = ret (.int 0) := rfl
theorem p_len_lst1 {a b c d e : D} : lenD (.lst [a]) = ret (.int 1) := rfl
theorem p_len_lst2 {a b c d e : D} : lenD (.lst [a, b]) = ret (.int 2) := rfl
theorem p_len_lst3 {a b c d e : D} : lenD (.lst [a, b, c]) = ret (.int 3) := rfl
theorem p_len_lst4 {a b c d e : D} : lenD (.lst [a, b, c, d]) = ret (.int 4) := rfl
theorem p_len_lst5 {a b c d e : D} : lenD (.lst [a, b, c, d, e]) = ret (.int 5) := rfl
theorem p_ix_t3 {a b c d : D} {xs : List D} : ixD (.tup (a :: b :: c :: d :: xs)) (.int 3) = ret d := p_ix_tnat (n := 3) rfl
theorem p_ix_l0 {a : D} {xs : List D} : ixD (.lst (a :: xs)) (.int 0) = ret a := p_ix_nat (n := 0) rfl
theorem smI_of {i : Int} (h : -4611686018427387904 ≤ i ∧ i < 4611686018427387904) : smI i = true := decide_eq_true h
theorem noEr_ret {α : Type} (a : α) : noEr (ret a) = ret a := rfl
theorem sz_small {n : Nat} (h : n ≤ 16777216) : szOk n = true := decide_eq_true h
theorem rgOk_of {i j : Int} (h : -4611686018427387904 ≤ i ∧ i < 4611686018427387904 ∧ -4611686018427387904 ≤ j ∧ j < 4611686018427387904 ∧ j - i ≤ 16777216) : rgOk i j = true := by
  unfold rgOk
  rw [smI_of (i := i) (by omega), smI_of (i := j) (by omega), sz_small (show (j - i).toNat ≤ 16777216 by omega)]; rfl
section
variable {nn : Nat} {fb : En → M Fl} {a b c d e : D} {ρ : En} {u : List D → En → M En}
theorem p_mk1 : mkM 1 nn fb [a] = bnd (fb (some a :: List.replicate (nn - 1) none)) flOut := rfl
theorem p_mk2 : mkM 2 nn fb [a, b] = bnd (fb (some a :: some b :: List.replicate (nn - 2) none)) flOut := rfl
theorem p_mk3 : mkM 3 nn fb [a, b, c] = bnd (fb (some a :: some b :: some c :: List.replicate (nn - 3) none)) flOut := rfl
theorem p_mk4 : mkM 4 nn fb [a, b, c, d] = bnd (fb (some a :: some b :: some c :: some d :: List.replicate (nn - 4) none)) flOut := rfl
theorem p_mk5 : mkM 5 nn fb [a, b, c, d, e] = bnd (fb (some a :: some b :: some c :: some d :: some e :: List.replicate (nn - 5) none)) flOut := rfl
theorem p_tup0 : mkTup [] = ret (.tup []) := rfl
theorem p_tup1 : mkTup [a] = ret (.tup [a]) := rfl
theorem p_tup2 : mkTup [a, b] = ret (.tup [a, b]) := rfl
theorem p_tup3 : mkTup [a, b, c] = ret (.tup [a, b, c]) := rfl
theorem p_tup4 : mkTup [a, b, c, d] = ret (.tup [a, b, c, d]) := rfl
theorem p_lst0 : mkLst [] = ret (.lst []) := rfl
theorem p_lst1 : mkLst [a] = ret (.lst [a]) := rfl
theorem p_lst2 : mkLst [a, b] = ret (.lst [a, b]) := rfl
theorem p_lst3 : mkLst [a, b, c] = ret (.lst [a, b, c]) := rfl
theorem p_lst4 : mkLst [a, b, c, d] = ret (.lst [a, b, c, d]) := rfl
theorem p_lst5 : mkLst [a, b, c, d, e] = ret (.lst [a, b, c, d, e]) := rfl
theorem p_gt2 : gTupD 2 u (.tup [a, b]) ρ = u [a, b] ρ := rfl
theorem p_gt3 : gTupD 3 u (.tup [a, b, c]) ρ = u [a, b, c] ρ := rfl
theorem p_slot : ofSlot (some (some d)) = ret d := rfl
theorem p_gcons {g : D → En → M En} {ds : List D} : gConsD g u (d :: ds) ρ = bnd (g d ρ) fun ρ' => u ds ρ' := rfl
theorem p_gnil : gNilD [] ρ = ret ρ := rfl
theorem p_fnx {ρ : En} {k : En → M Fl} : fBnd (ret (.nx ρ)) k = k ρ := rfl
theorem p_frt {k : En → M Fl} : fBnd (ret (.rt d)) k = ret (.rt d) := rfl
theorem p_out {ρ : En} : flOut (.nx ρ) = ret .non := rfl
theorem p_ort : flOut (.rt d) = ret d := rfl
theorem p_fbnd {α : Type} {m : M α} {k : α → M Fl} {l : En → M Fl} : fBnd (bnd m k) l = bnd m fun a => fBnd (k a) l := bnd_assoc _ _ _
theorem p_fif {c : Prop} [Decidable c] {m n : M Fl} {k : En → M Fl} : fBnd (if c then m else n) k = if c then fBnd m k else fBnd n k := by split <;> rfl
end
section
variable {α : Type} {ρ : En} {f f1 f2 f3 : En → M D} {t t1 t2 : En → M Bool} {g h : D → D → M D} {s1 s2 : En → M Fl} {fa : En → M (List D)} {tg : D → En → M En} {m : List D → M D} {d : D} {i j : Nat} {fl fu : En → M (Option Int)}
theorem q_seq : sSeq s1 s2 ρ = fBnd (s1 ρ) s2 := rfl
theorem q_asg : sAsg f tg ρ = bnd (f ρ) fun d => bnd (tg d ρ) fun ρ' => ret (.nx ρ') := rfl
theorem q_ret : sRet f ρ = bnd (f ρ) fun d => ret (.rt d) := rfl
theorem q_retN : sRetN ρ = ret (.rt .non) := rfl
theorem q_if : sIf t s1 s2 ρ = bnd (t ρ) fun c => br c (s1 ρ) (s2 ρ) := rfl
theorem q_exp : sExp f ρ = bnd (f ρ) fun _ => ret (.nx ρ) := rfl
theorem q_nx : sNx ρ = ret (.nx ρ) := rfl
theorem q_stuck : sStuck ρ = stuck := rfl
theorem q_par : sPar i j f1 f2 ρ = bnd (f1 ρ) fun x => bnd (f2 ρ) fun y => ret (.nx ((ρ.set i (some x)).set j (some y))) := rfl
theorem q_for {fi : En → M (List D)} : sFor fi tg s1 ρ = bnd (fi ρ) fun ds => forL (fun d ρ => bnd (tg d ρ) s1) ds ρ := rfl
theorem q_while {n : En → Nat} : sWhile n t s1 ρ = whileF t s1 (n ρ) ρ := rfl
theorem q_e2 : e2 g f1 f2 ρ = bnd (f1 ρ) fun x => bnd (f2 ρ) fun y => g x y := rfl
theorem q_var : eVar i ρ = ofSlot ρ[i]? := rfl
theorem q_k : eK d ρ = ret d := rfl
theorem q_call : eCall fa m ρ = bnd (fa ρ) m := rfl
theorem q_anil : aNil ρ = ret [] := rfl
theorem q_acons : aCons f fa ρ = bnd (f ρ) fun x => bnd (fa ρ) fun xs => ret (x :: xs) := rfl
theorem q_tup : eTup fa ρ = bnd (fa ρ) mkTup := rfl
theorem q_lst : eLst fa ρ = bnd (fa ρ) mkLst := rfl
theorem q_loc : eLoc fa ρ = bnd (fa ρ) mkLoc := rfl
theorem q_and : eAnd f1 f2 ρ = bnd (f1 ρ) fun x => bnd (asB x) fun c => br c (f2 ρ) (ret (.bl false)) := rfl
theorem q_or : eOr f1 f2 ρ = bnd (f1 ρ) fun x => bnd (asB x) fun c => br c (ret (.bl true)) (f2 ρ) := rfl
theorem q_not : eNot f ρ = bnd (f ρ) fun x => bnd (asB x) fun c => ret (.bl (!c)) := rfl
theorem q_eif : eIf t f1 f2 ρ = bnd (t ρ) fun c => br c (f1 ρ) (f2 ρ) := rfl
def negD : D → M D := fun x => match x with | .int i => ret (.int (-i)) | _ => stuck
theorem q_eneg : eNeg f ρ = bnd (f ρ) negD := rfl
theorem p_neg {i : Int} : negD (.int i) = ret (.int (-i)) := rfl
theorem q_chain : eChain g h f1 f2 f3 ρ = bnd (f1 ρ) fun x => bnd (f2 ρ) fun y => bnd (g x y) fun z => bnd (asB z) fun k => br k (bnd (f3 ρ) fun u => h y u) (ret (.bl false)) := rfl
theorem q_toT : toT f ρ = bnd (f ρ) asB := rfl
theorem q_band : bAnd t1 t2 ρ = bnd (t1 ρ) fun c => br c (t2 ρ) (ret false) := rfl
theorem q_bor : bOr t1 t2 ρ = bnd (t1 ρ) fun c => br c (ret true) (t2 ρ) := rfl
theorem q_bnot : bNot t ρ = bnd (t ρ) fun c => ret (!c) := rfl
theorem q_gn : gN i d ρ = ret (ρ.set i (some d)) := rfl
theorem q_gsub : gSubD f1 f2 d ρ = bnd (f1 ρ) fun x => bnd (f2 ρ) fun i => bnd (putL x i d) fun _ => ret ρ := rfl
theorem q_iseq : iSeqD f ρ = bnd (f ρ) itemsD := rfl
theorem q_irange1 : iRangeD1 fa ρ = bnd (fa ρ) rangeD1 := rfl
theorem q_irange : iRangeD fa ρ = bnd (fa ρ) rangeD := rfl
theorem q_izip : iZipD f1 f2 ρ = bnd (f1 ρ) fun x => bnd (f2 ρ) fun y => zip2D x y := rfl
theorem q_ienum : iEnumD f ρ = bnd (f ρ) fun x => bnd (listD x) fun ds => ret (enumDs ds) := rfl
theorem q_sl : eSl f fl fu ρ = bnd (f ρ) fun x => bnd (fl ρ) fun lo => bnd (fu ρ) fun hi => slD x lo hi := rfl
theorem q_onone : oNone ρ = ret none := rfl
theorem q_osome : oSome f ρ = bnd (f ρ) fun x => bnd (asI x) fun i => ret (some i) := rfl
theorem q_app : eApp f1 f2 ρ = bnd (f1 ρ) fun x => bnd (isCell x) fun _ => bnd (f2 ρ) fun d => appD x d := rfl
theorem q_lc {vs : List Nat} {fi : En → M (List D)} : eLc vs fi tg t f ρ = bnd (fi ρ) fun ds => if szOk ds.length = true then bnd (lcL (lcB vs tg t f ρ) ds) fun ys => ret (.lst ys) else stuck := rfl
theorem q_frz : eFrz f ρ = bnd (f ρ) frz := rfl
theorem q_frzAt : frzAt i s1 ρ = bnd (ofSlot ρ[i]?) fun d => bnd (frz d) fun d' => s1 (ρ.set i (some d')) := rfl
theorem br_t {a b : α} : br true a b = a := rfl
theorem br_f {a b : α} : br false a b = b := rfl
theorem br_yes {c : Prop} [Decidable c] {a b : α} (h : c) : br (decide c) a b = a := by rw [decide_eq_true h]; rfl
theorem br_no {c : Prop} [Decidable c] {a b : α} (h : ¬ c) : br (decide c) a b = b := by rw [decide_eq_false h]; rfl
theorem bnd_br {β : Type} {c : Bool} {x y : M α} {k : α → M β} : bnd (br c x y) k = br c (bnd x k) (bnd y k) := by cases c <;> rfl
theorem fbnd_br {c : Bool} {x y : M Fl} {k : En → M Fl} : fBnd (br c x y) k = br c (fBnd x k) (fBnd y k) := by cases c <;> rfl
end
/-! ## what must hold ahead of a run, piece by piece -/
def thenF (g : En → M Fl) (Q : Fl → Sto → Prop) (fl : Fl) (s : Sto) : Prop := match fl with
  | .nx ρ => runs (g ρ) s Q
  | .rt d => Q (.rt d) s
  | .bk ρ => Q (.bk ρ) s
  | .ct ρ => Q (.ct ρ) s
/-! what follows, by names: nothing in it is looked into ahead of its time -/
section
variable {α β : Type}
def kM (m : β → M α) (Q : α → Sto → Prop) (x : β) (s : Sto) : Prop := runs (m x) s Q
def kNx (Q : Fl → Sto → Prop) (ρ : En) (s : Sto) : Prop := Q (.nx ρ) s
def kAsg (tg : D → En → M En) (ρ : En) (Q : Fl → Sto → Prop) (d : D) (s : Sto) : Prop := runs (tg d ρ) s (kNx Q)
def kRt (Q : Fl → Sto → Prop) (d : D) (s : Sto) : Prop := Q (.rt d) s
def kIf (f g : En → M α) (ρ : En) (Q : α → Sto → Prop) (c : Bool) (s : Sto) : Prop := br c (runs (f ρ) s Q) (runs (g ρ) s Q)
def kEx (ρ : En) (Q : Fl → Sto → Prop) (_ : D) (s : Sto) : Prop := Q (.nx ρ) s
def kPb (i j : Nat) (x : D) (ρ : En) (Q : Fl → Sto → Prop) (y : D) (s : Sto) : Prop := Q (.nx ((ρ.set i (some x)).set j (some y))) s
def kPa (i j : Nat) (f2 : En → M D) (ρ : En) (Q : Fl → Sto → Prop) (x : D) (s : Sto) : Prop := runs (f2 ρ) s (kPb i j x ρ Q)
def fBody (tg : D → En → M En) (b : En → M Fl) (d : D) (ρ : En) : M Fl := bnd (tg d ρ) b
def kFor (tg : D → En → M En) (b : En → M Fl) (ρ : En) (Q : Fl → Sto → Prop) (ds : List D) (s : Sto) : Prop := runs (forL (fBody tg b) ds ρ) s Q
def k2a (g : D → D → M α) (f2 : En → M D) (ρ : En) (Q : α → Sto → Prop) (x : D) (s : Sto) : Prop := runs (f2 ρ) s (kM (g x) Q)
def kCb (x : D) (Q : List D → Sto → Prop) (xs : List D) (s : Sto) : Prop := Q (x :: xs) s
def kCa (fa : En → M (List D)) (ρ : En) (Q : List D → Sto → Prop) (x : D) (s : Sto) : Prop := runs (fa ρ) s (kCb x Q)
def kAn2 (f2 : En → M D) (ρ : En) (Q : D → Sto → Prop) (c : Bool) (s : Sto) : Prop := br c (runs (f2 ρ) s Q) (Q (.bl false) s)
def kOr2 (f2 : En → M D) (ρ : En) (Q : D → Sto → Prop) (c : Bool) (s : Sto) : Prop := br c (Q (.bl true) s) (runs (f2 ρ) s Q)
def kNo (Q : D → Sto → Prop) (c : Bool) (s : Sto) : Prop := Q (.bl (!c)) s
def kC4 (h : D → D → M D) (f3 : En → M D) (y : D) (ρ : En) (Q : D → Sto → Prop) (k : Bool) (s : Sto) : Prop := br k (runs (f3 ρ) s (kM (h y) Q)) (Q (.bl false) s)
def kC2 (g h : D → D → M D) (f3 : En → M D) (x : D) (ρ : En) (Q : D → Sto → Prop) (y : D) (s : Sto) : Prop := runs (g x y) s (kM asB (kC4 h f3 y ρ Q))
def kC1 (g h : D → D → M D) (f2 f3 : En → M D) (ρ : En) (Q : D → Sto → Prop) (x : D) (s : Sto) : Prop := runs (f2 ρ) s (kC2 g h f3 x ρ Q)
def kBa (t2 : En → M Bool) (ρ : En) (Q : Bool → Sto → Prop) (c : Bool) (s : Sto) : Prop := br c (runs (t2 ρ) s Q) (Q false s)
def kBo (t2 : En → M Bool) (ρ : En) (Q : Bool → Sto → Prop) (c : Bool) (s : Sto) : Prop := br c (Q true s) (runs (t2 ρ) s Q)
def kBn (Q : Bool → Sto → Prop) (c : Bool) (s : Sto) : Prop := Q (!c) s
def kS3 (ρ : En) (Q : En → Sto → Prop) (_ : Unit) (s : Sto) : Prop := Q ρ s
def kS2 (x d : D) (ρ : En) (Q : En → Sto → Prop) (i : D) (s : Sto) : Prop := runs (putL x i d) s (kS3 ρ Q)
def kS1 (f2 : En → M D) (d : D) (ρ : En) (Q : En → Sto → Prop) (x : D) (s : Sto) : Prop := runs (f2 ρ) s (kS2 x d ρ Q)
def kG (u : List D → En → M En) (ds : List D) (Q : En → Sto → Prop) (ρ : En) (s : Sto) : Prop := runs (u ds ρ) s Q
def kSc (x : D) (lo : Option Int) (Q : D → Sto → Prop) (hi : Option Int) (s : Sto) : Prop := runs (slD x lo hi) s Q
def kSb (fu : En → M (Option Int)) (x : D) (ρ : En) (Q : D → Sto → Prop) (lo : Option Int) (s : Sto) : Prop := runs (fu ρ) s (kSc x lo Q)
def kSa (fl fu : En → M (Option Int)) (ρ : En) (Q : D → Sto → Prop) (x : D) (s : Sto) : Prop := runs (fl ρ) s (kSb fu x ρ Q)
def kO (Q : Option Int → Sto → Prop) (i : Int) (s : Sto) : Prop := Q (some i) s
def kEn (Q : List D → Sto → Prop) (ds : List D) (s : Sto) : Prop := Q (enumDs ds) s
def kA2 (f2 : En → M D) (x : D) (ρ : En) (Q : D → Sto → Prop) (_ : Unit) (s : Sto) : Prop := runs (f2 ρ) s (kM (appD x) Q)
def kA1 (f2 : En → M D) (ρ : En) (Q : D → Sto → Prop) (x : D) (s : Sto) : Prop := runs (isCell x) s (kA2 f2 x ρ Q)
def kLt (Q : D → Sto → Prop) (ys : List D) (s : Sto) : Prop := Q (.lst ys) s
def kLc (body : D → M (Option D)) (Q : D → Sto → Prop) (ds : List D) (s : Sto) : Prop := szOk ds.length = true ∧ runs (lcL body ds) s (kLt Q)
def kL3 (Q : Option D → Sto → Prop) (y : D) (s : Sto) : Prop := Q (some y) s
def kL2 (f : En → M D) (ρ : En) (Q : Option D → Sto → Prop) (c : Bool) (s : Sto) : Prop := br c (runs (f ρ) s (kL3 Q)) (Q none s)
def kL1 (t : En → M Bool) (f : En → M D) (Q : Option D → Sto → Prop) (ρ : En) (s : Sto) : Prop := runs (t ρ) s (kL2 f ρ Q)
def kOut (Q : D → Sto → Prop) (fl : Fl) (s : Sto) : Prop := runs (flOut fl) s Q
def kF2 (i : Nat) (f : En → M Fl) (ρ : En) (Q : Fl → Sto → Prop) (d : D) (s : Sto) : Prop := runs (f (ρ.set i (some d))) s Q
def kF1 (i : Nat) (f : En → M Fl) (ρ : En) (Q : Fl → Sto → Prop) (d : D) (s : Sto) : Prop := runs (frz d) s (kF2 i f ρ Q)
end
section
variable {α : Type} {s : Sto} {Q : D → Sto → Prop} {QB : Bool → Sto → Prop} {QF : Fl → Sto → Prop} {QL : List D → Sto → Prop} {QE : En → Sto → Prop} {QO : Option Int → Sto → Prop} {QP : Option D → Sto → Prop} {ρ ρ' : En} {f f1 f2 f3 : En → M D} {t t1 t2 : En → M Bool} {g h : D → D → M D} {s1 s2 : En → M Fl} {fa : En → M (List D)} {tg : D → En → M En} {m : List D → M D} {d x y : D} {i j : Nat} {fl fu : En → M (Option Int)} {ds : List D}
theorem r_ret {a : α} {Q : α → Sto → Prop} : runs (ret a) s Q = Q a s := propext ⟨fun ⟨_, _, e, q⟩ => by cases e; exact q, runs_ret⟩
theorem r_stuck {Q : α → Sto → Prop} : runs stuck s Q = False := propext (Iff.intro (fun ⟨_, _, e, _⟩ => nomatch (show (R.no : R α) = .ok _ _ from e)) False.elim)
theorem r_bnd {β : Type} {m : M α} {k : α → M β} {Q : β → Sto → Prop} : runs (bnd m k) s Q = runs m s (kM k Q) := propext (Iff.intro (fun ⟨b, s2, e, q⟩ => (by
  have e' : (m s).bind k = .ok b s2 := e
  unfold runs
  cases h : m s with
  | ok a s' => rw [h] at e'; exact ⟨a, s', rfl, b, s2, e', q⟩
  | er c s' => rw [h] at e'; cases e'
  | no => rw [h] at e'; cases e')) runs_bnd)
theorem r_km {β : Type} {m : β → M α} {Q : α → Sto → Prop} {x : β} : kM m Q x s = runs (m x) s Q := rfl
theorem r_br {c : Bool} {x y : M α} {Q : α → Sto → Prop} : runs (br c x y) s Q = br c (runs x s Q) (runs y s Q) := by cases c <;> rfl
theorem r_seq : runs (sSeq s1 s2 ρ) s QF = runs (s1 ρ) s (thenF s2 QF) := by
  show runs (bnd (s1 ρ) _) s QF = _
  rw [r_bnd]
  congr 1
  funext fl s'
  cases fl
  · rfl
  · exact r_ret
  · exact r_ret
  · exact r_ret
theorem r_thnx : thenF s2 QF (.nx ρ) s = runs (s2 ρ) s QF := rfl
theorem r_thrt : thenF s2 QF (.rt d) s = QF (.rt d) s := rfl
theorem r_asg : runs (sAsg f tg ρ) s QF = runs (f ρ) s (kAsg tg ρ QF) := by
  show runs (bnd _ _) s QF = _
  simp only [r_bnd]
  congr 1
  funext d s'
  show runs (bnd _ _) _ _ = _
  rw [r_bnd]
  congr 1
  funext ρ' s2
  exact r_ret
theorem r_kasg : kAsg tg ρ QF d s = runs (tg d ρ) s (kNx QF) := rfl
theorem r_knx : kNx QF ρ s = QF (.nx ρ) s := rfl
theorem r_sret : runs (sRet f ρ) s QF = runs (f ρ) s (kRt QF) := by
  show runs (bnd _ _) s QF = _
  rw [r_bnd]
  congr 1
  funext d s'
  exact r_ret
theorem r_krt : kRt QF d s = QF (.rt d) s := rfl
theorem r_sretN : runs (sRetN ρ) s QF = QF (.rt .non) s := r_ret
theorem r_sif : runs (sIf t s1 s2 ρ) s QF = runs (t ρ) s (kIf s1 s2 ρ QF) := by
  show runs (bnd _ _) s QF = _
  rw [r_bnd]
  congr 1
  funext d s'
  exact r_br
theorem r_kift {f g : En → M α} {Q : α → Sto → Prop} : kIf f g ρ Q true s = runs (f ρ) s Q := rfl
theorem r_kiff {f g : En → M α} {Q : α → Sto → Prop} : kIf f g ρ Q false s = runs (g ρ) s Q := rfl
theorem r_sexp : runs (sExp f ρ) s QF = runs (f ρ) s (kEx ρ QF) := by
  show runs (bnd _ _) s QF = _
  rw [r_bnd]
  congr 1
  funext d s'
  exact r_ret
theorem r_kex : kEx ρ QF d s = QF (.nx ρ) s := rfl
theorem r_snx : runs (sNx ρ) s QF = QF (.nx ρ) s := r_ret
theorem r_sstuck : runs (sStuck ρ) s QF = False := r_stuck
theorem r_par : runs (sPar i j f1 f2 ρ) s QF = runs (f1 ρ) s (kPa i j f2 ρ QF) := by
  show runs (bnd _ _) s QF = _
  rw [r_bnd]
  congr 1
  funext d s'
  show runs (bnd _ _) _ _ = _
  rw [r_bnd]
  congr 1
  funext d s'
  exact r_ret
theorem r_kpa : kPa i j f2 ρ QF x s = runs (f2 ρ) s (kPb i j x ρ QF) := rfl
theorem r_kpb : kPb i j x ρ QF y s = QF (.nx ((ρ.set i (some x)).set j (some y))) s := rfl
theorem r_for {fi : En → M (List D)} : runs (sFor fi tg s1 ρ) s QF = runs (fi ρ) s (kFor tg s1 ρ QF) := r_bnd
theorem r_kfor : kFor tg s1 ρ QF ds s = runs (forL (fBody tg s1) ds ρ) s QF := rfl
theorem r_fbody : runs (fBody tg s1 d ρ) s QF = runs (tg d ρ) s (kM s1 QF) := r_bnd
theorem r_while {n : En → Nat} : runs (sWhile n t s1 ρ) s QF = runs (whileF t s1 (n ρ) ρ) s QF := rfl
theorem r_e2 : runs (e2 g f1 f2 ρ) s Q = runs (f1 ρ) s (k2a g f2 ρ Q) := by
  show runs (bnd _ _) s Q = _
  rw [r_bnd]
  congr 1
  funext d s'
  exact r_bnd
theorem r_k2a {g : D → D → M α} {Q : α → Sto → Prop} : k2a g f2 ρ Q x s = runs (f2 ρ) s (kM (g x) Q) := rfl
theorem r_var : runs (eVar i ρ) s Q = runs (ofSlot ρ[i]?) s Q := rfl
theorem r_slot : runs (ofSlot (some (some d))) s Q = Q d s := r_ret
theorem r_k : runs (eK d ρ) s Q = Q d s := r_ret
theorem r_call : runs (eCall fa m ρ) s Q = runs (fa ρ) s (kM m Q) := r_bnd
theorem r_anil : runs (aNil ρ) s QL = QL [] s := r_ret
theorem r_acons : runs (aCons f fa ρ) s QL = runs (f ρ) s (kCa fa ρ QL) := by
  show runs (bnd _ _) s QL = _
  rw [r_bnd]
  congr 1
  funext d s'
  show runs (bnd _ _) _ _ = _
  rw [r_bnd]
  congr 1
  funext d s'
  exact r_ret
theorem r_kca : kCa fa ρ QL x s = runs (fa ρ) s (kCb x QL) := rfl
theorem r_kcb : kCb x QL ds s = QL (x :: ds) s := rfl
theorem r_tup : runs (eTup fa ρ) s Q = runs (fa ρ) s (kM mkTup Q) := r_bnd
theorem r_lst : runs (eLst fa ρ) s Q = runs (fa ρ) s (kM mkLst Q) := r_bnd
theorem r_loc : runs (eLoc fa ρ) s Q = runs (fa ρ) s (kM mkLoc Q) := r_bnd
theorem r_and : runs (eAnd f1 f2 ρ) s Q = runs (f1 ρ) s (kM asB (kAn2 f2 ρ Q)) := by
  show runs (bnd _ _) s Q = _
  rw [r_bnd]
  congr 1
  funext d s'
  show runs (bnd _ _) _ _ = _
  rw [r_bnd]
  unfold kM
  congr 1
  funext c s'
  rw [r_br, r_ret]; rfl
theorem r_kan2t : kAn2 f2 ρ Q true s = runs (f2 ρ) s Q := rfl
theorem r_kan2f : kAn2 f2 ρ Q false s = Q (.bl false) s := rfl
theorem r_or : runs (eOr f1 f2 ρ) s Q = runs (f1 ρ) s (kM asB (kOr2 f2 ρ Q)) := by
  show runs (bnd _ _) s Q = _
  rw [r_bnd]
  congr 1
  funext d s'
  show runs (bnd _ _) _ _ = _
  rw [r_bnd]
  unfold kM
  congr 1
  funext c s'
  rw [r_br, r_ret]; rfl
theorem r_kor2t : kOr2 f2 ρ Q true s = Q (.bl true) s := rfl
theorem r_kor2f : kOr2 f2 ρ Q false s = runs (f2 ρ) s Q := rfl
theorem r_not : runs (eNot f ρ) s Q = runs (f ρ) s (kM asB (kNo Q)) := by
  show runs (bnd _ _) s Q = _
  rw [r_bnd]
  congr 1
  funext d s'
  show runs (bnd _ _) _ _ = _
  rw [r_bnd]
  unfold kM
  congr 1
  funext c s'
  exact r_ret
theorem r_kno {c : Bool} : kNo Q c s = Q (.bl (!c)) s := rfl
theorem r_eif : runs (eIf t f1 f2 ρ) s Q = runs (t ρ) s (kIf f1 f2 ρ Q) := by
  show runs (bnd _ _) s Q = _
  rw [r_bnd]
  congr 1
  funext d s'
  exact r_br
theorem r_neg : runs (eNeg f ρ) s Q = runs (f ρ) s (kM negD Q) := r_bnd
theorem r_chain : runs (eChain g h f1 f2 f3 ρ) s Q = runs (f1 ρ) s (kC1 g h f2 f3 ρ Q) := by
  show runs (bnd _ _) s Q = _
  rw [r_bnd]
  congr 1
  funext x s1
  show runs (bnd _ _) _ _ = _
  rw [r_bnd]
  congr 1
  funext y s1
  show runs (bnd _ _) _ _ = _
  rw [r_bnd]
  congr 1
  funext z s1
  show runs (bnd _ _) _ _ = _
  rw [r_bnd]
  unfold kM
  congr 1
  funext k s1
  rw [r_br, r_ret]
  congr 1
  exact r_bnd
theorem r_kc1 : kC1 g h f2 f3 ρ Q x s = runs (f2 ρ) s (kC2 g h f3 x ρ Q) := rfl
theorem r_kc2 : kC2 g h f3 x ρ Q y s = runs (g x y) s (kM asB (kC4 h f3 y ρ Q)) := rfl
theorem r_kc4t : kC4 h f3 y ρ Q true s = runs (f3 ρ) s (kM (h y) Q) := rfl
theorem r_kc4f : kC4 h f3 y ρ Q false s = Q (.bl false) s := rfl
theorem r_toT : runs (toT f ρ) s QB = runs (f ρ) s (kM asB QB) := r_bnd
theorem r_band : runs (bAnd t1 t2 ρ) s QB = runs (t1 ρ) s (kBa t2 ρ QB) := by
  show runs (bnd _ _) s QB = _
  rw [r_bnd]
  congr 1
  funext c s'
  show runs (br _ _ _) _ _ = _
  rw [r_br, r_ret]; rfl
theorem r_kbat : kBa t2 ρ QB true s = runs (t2 ρ) s QB := rfl
theorem r_kbaf : kBa t2 ρ QB false s = QB false s := rfl
theorem r_bor : runs (bOr t1 t2 ρ) s QB = runs (t1 ρ) s (kBo t2 ρ QB) := by
  show runs (bnd _ _) s QB = _
  rw [r_bnd]
  congr 1
  funext c s'
  show runs (br _ _ _) _ _ = _
  rw [r_br, r_ret]; rfl
theorem r_kbot : kBo t2 ρ QB true s = QB true s := rfl
theorem r_kbof : kBo t2 ρ QB false s = runs (t2 ρ) s QB := rfl
theorem r_bnot : runs (bNot t ρ) s QB = runs (t ρ) s (kBn QB) := by
  show runs (bnd _ _) s QB = _
  rw [r_bnd]
  congr 1
  funext c s'
  exact r_ret
theorem r_kbn {c : Bool} : kBn QB c s = QB (!c) s := rfl
theorem r_gn : runs (gN i d ρ) s QE = QE (ρ.set i (some d)) s := r_ret
theorem r_gsub : runs (gSubD f1 f2 d ρ) s QE = runs (f1 ρ) s (kS1 f2 d ρ QE) := by
  show runs (bnd _ _) s QE = _
  rw [r_bnd]
  congr 1
  funext x s1
  show runs (bnd _ _) _ _ = _
  rw [r_bnd]
  congr 1
  funext y s1
  show runs (bnd _ _) _ _ = _
  rw [r_bnd]
  congr 1
  funext z s1
  exact r_ret
theorem r_ks1 : kS1 f2 d ρ QE x s = runs (f2 ρ) s (kS2 x d ρ QE) := rfl
theorem r_ks2 : kS2 x d ρ QE y s = runs (putL x y d) s (kS3 ρ QE) := rfl
theorem r_ks3 {u : Unit} : kS3 ρ QE u s = QE ρ s := rfl
theorem r_gcons {u : List D → En → M En} : runs (gConsD tg u (d :: ds) ρ) s QE = runs (tg d ρ) s (kG u ds QE) := r_bnd
theorem r_kg {u : List D → En → M En} : kG u ds QE ρ s = runs (u ds ρ) s QE := rfl
theorem r_gnil : runs (gNilD [] ρ) s QE = QE ρ s := r_ret
theorem r_iseq : runs (iSeqD f ρ) s QL = runs (f ρ) s (kM itemsD QL) := r_bnd
theorem r_irange1 : runs (iRangeD1 fa ρ) s QL = runs (fa ρ) s (kM rangeD1 QL) := r_bnd
theorem r_irange : runs (iRangeD fa ρ) s QL = runs (fa ρ) s (kM rangeD QL) := r_bnd
theorem r_izip : runs (iZipD f1 f2 ρ) s QL = runs (f1 ρ) s (k2a zip2D f2 ρ QL) := by
  show runs (bnd _ _) s QL = _
  rw [r_bnd]
  congr 1
  funext d s'
  exact r_bnd
theorem r_ienum : runs (iEnumD f ρ) s QL = runs (f ρ) s (kM listD (kEn QL)) := by
  show runs (bnd _ _) s QL = _
  rw [r_bnd]
  congr 1
  funext d s'
  show runs (bnd _ _) _ _ = _
  rw [r_bnd]
  unfold kM
  congr 1
  funext d s'
  exact r_ret
theorem r_ken : kEn QL ds s = QL (enumDs ds) s := rfl
theorem r_sl : runs (eSl f fl fu ρ) s Q = runs (f ρ) s (kSa fl fu ρ Q) := by
  show runs (bnd _ _) s Q = _
  rw [r_bnd]
  congr 1
  funext d s'
  show runs (bnd _ _) _ _ = _
  rw [r_bnd]
  congr 1
  funext d s'
  exact r_bnd
theorem r_ksa : kSa fl fu ρ Q x s = runs (fl ρ) s (kSb fu x ρ Q) := rfl
theorem r_ksb {lo : Option Int} : kSb fu x ρ Q lo s = runs (fu ρ) s (kSc x lo Q) := rfl
theorem r_ksc {lo hi : Option Int} : kSc x lo Q hi s = runs (slD x lo hi) s Q := rfl
theorem r_onone : runs (oNone ρ) s QO = QO none s := r_ret
theorem r_osome : runs (oSome f ρ) s QO = runs (f ρ) s (kM asI (kO QO)) := by
  show runs (bnd _ _) s QO = _
  rw [r_bnd]
  congr 1
  funext d s'
  show runs (bnd _ _) _ _ = _
  rw [r_bnd]
  unfold kM
  congr 1
  funext d s'
  exact r_ret
theorem r_ko {i : Int} : kO QO i s = QO (some i) s := rfl
theorem r_app : runs (eApp f1 f2 ρ) s Q = runs (f1 ρ) s (kA1 f2 ρ Q) := by
  show runs (bnd _ _) s Q = _
  rw [r_bnd]
  congr 1
  funext d s'
  show runs (bnd _ _) _ _ = _
  rw [r_bnd]
  congr 1
  funext u s'
  exact r_bnd
theorem r_ka1 : kA1 f2 ρ Q x s = runs (isCell x) s (kA2 f2 x ρ Q) := rfl
theorem r_ka2 {u : Unit} : kA2 f2 x ρ Q u s = runs (f2 ρ) s (kM (appD x) Q) := rfl
theorem r_lc {vs : List Nat} {fi : En → M (List D)} : runs (eLc vs fi tg t f ρ) s Q = runs (fi ρ) s (kLc (lcB vs tg t f ρ) Q) := by
  show runs (bnd _ _) s Q = _
  rw [r_bnd]
  congr 1
  funext ds s'
  show runs (if szOk ds.length = true then bnd (lcL (lcB vs tg t f ρ) ds) (fun ys => ret (.lst ys)) else stuck) s' Q = (szOk ds.length = true ∧ runs (lcL (lcB vs tg t f ρ) ds) s' (kLt Q))
  by_cases h : szOk ds.length = true
  · rw [if_pos h, r_bnd, eq_true h, true_and]
    congr 1
    funext ys s2
    exact r_ret
  · rw [if_neg h, r_stuck, eq_false h, false_and]
def kLcK (k : List D → M D) (body : D → M (Option D)) (Q : D → Sto → Prop) (ds : List D) (s : Sto) : Prop := szOk ds.length = true ∧ runs (lcL body ds) s (kM k Q)
theorem r_lcK {k : List D → M D} {vs : List Nat} {fi : En → M (List D)} : runs (eLcK k vs fi tg t f ρ) s Q = runs (fi ρ) s (kLcK k (lcB vs tg t f ρ) Q) := by
  show runs (bnd _ _) s Q = _
  rw [r_bnd]
  congr 1
  funext ds s'
  show runs (if szOk ds.length = true then bnd (lcL (lcB vs tg t f ρ) ds) k else stuck) s' Q = (szOk ds.length = true ∧ runs (lcL (lcB vs tg t f ρ) ds) s' (kM k Q))
  by_cases h : szOk ds.length = true
  · rw [if_pos h, r_bnd, eq_true h, true_and]
  · rw [if_neg h, r_stuck, eq_false h, false_and]
theorem r_klcK {k : List D → M D} {body : D → M (Option D)} : kLcK k body Q ds s = (szOk ds.length = true ∧ runs (lcL body ds) s (kM k Q)) := rfl
theorem r_klc {body : D → M (Option D)} : kLc body Q ds s = (szOk ds.length = true ∧ runs (lcL body ds) s (kLt Q)) := rfl
theorem r_klt : kLt Q ds s = Q (.lst ds) s := rfl
theorem r_mk0 {nn : Nat} {fb : En → M Fl} : runs (mkM 0 nn fb []) s Q = runs (fb (List.replicate (nn - 0) none)) s (kOut Q) := r_bnd
theorem r_mk1 {nn : Nat} {fb : En → M Fl} {a : D} : runs (mkM 1 nn fb [a]) s Q = runs (fb (some a :: List.replicate (nn - 1) none)) s (kOut Q) := r_bnd
theorem r_mk2 {nn : Nat} {fb : En → M Fl} {a b : D} : runs (mkM 2 nn fb [a, b]) s Q = runs (fb (some a :: some b :: List.replicate (nn - 2) none)) s (kOut Q) := r_bnd
theorem r_mk3 {nn : Nat} {fb : En → M Fl} {a b c : D} : runs (mkM 3 nn fb [a, b, c]) s Q = runs (fb (some a :: some b :: some c :: List.replicate (nn - 3) none)) s (kOut Q) := r_bnd
theorem r_mk4 {nn : Nat} {fb : En → M Fl} {a b c d : D} : runs (mkM 4 nn fb [a, b, c, d]) s Q = runs (fb (some a :: some b :: some c :: some d :: List.replicate (nn - 4) none)) s (kOut Q) := r_bnd
theorem r_mk5 {nn : Nat} {fb : En → M Fl} {a b c d e : D} : runs (mkM 5 nn fb [a, b, c, d, e]) s Q = runs (fb (some a :: some b :: some c :: some d :: some e :: List.replicate (nn - 5) none)) s (kOut Q) := r_bnd
theorem r_onx : kOut Q (.nx ρ) s = Q .non s := r_ret
theorem r_ort : kOut Q (.rt d) s = Q d s := r_ret
theorem r_frz : runs (eFrz f ρ) s Q = runs (f ρ) s (kM frz Q) := r_bnd
theorem r_frzAt : runs (frzAt i s1 ρ) s QF = runs (ofSlot ρ[i]?) s (kF1 i s1 ρ QF) := by
  show runs (bnd _ _) s QF = _
  rw [r_bnd]
  congr 1
  funext d s'
  exact r_bnd
theorem r_kf1 : kF1 i s1 ρ QF d s = runs (frz d) s (kF2 i s1 ρ QF) := rfl
theorem r_kf2 : kF2 i s1 ρ QF d s = runs (s1 (ρ.set i (some d))) s QF := rfl
theorem r_noEr {m : M α} {Q : α → Sto → Prop} : runs (noEr m) s Q = runs m s Q := by
  unfold runs noEr
  cases m s with
  | ok a s' => rfl
  | er c s' => exact propext (Iff.intro (fun ⟨_, _, e, _⟩ => nomatch (show (R.no : R α) = .ok _ _ from e)) (fun ⟨_, _, e, _⟩ => nomatch (show (R.er c s' : R α) = .ok _ _ from e)))
  | no => rfl
theorem r_lcB {vs : List Nat} : runs (lcB vs tg t f ρ d) s QP = runs (tg d (wipeD ρ vs)) s (kL1 t f QP) := by
  unfold lcB
  rw [r_noEr, r_bnd]
  congr 1
  funext ρ' s'
  show runs (bnd _ _) _ _ = _
  rw [r_bnd]
  congr 1
  funext c s2
  show runs (br _ _ _) _ _ = _
  rw [r_br, r_ret, r_bnd]
  show br c _ _ = br c _ _
  congr 2
  funext y s3
  exact r_ret
theorem r_kl1 : kL1 t f QP ρ s = runs (t ρ) s (kL2 f ρ QP) := rfl
theorem r_kl2t : kL2 f ρ QP true s = runs (f ρ) s (kL3 QP) := rfl
theorem r_kl2f : kL2 f ρ QP false s = QP none s := rfl
theorem r_kl3 : kL3 QP y s = QP (some y) s := rfl
/-! tests whose answer is known -/
theorem r_kifT {f g : En → M α} {Q : α → Sto → Prop} {c : Prop} [Decidable c] (h : c) : kIf f g ρ Q (decide c) s = runs (f ρ) s Q := by rw [decide_eq_true h]; rfl
theorem r_kifF {f g : En → M α} {Q : α → Sto → Prop} {c : Prop} [Decidable c] (h : ¬ c) : kIf f g ρ Q (decide c) s = runs (g ρ) s Q := by rw [decide_eq_false h]; rfl
theorem eq_of_runs {m : M α} {v : α} (h : ∀ s, runs m s fun a s' => a = v ∧ s' = s) : m = ret v := by
  funext s
  obtain ⟨a, s', e, rfl, rfl⟩ := h s
  exact e
theorem runs_of_eq {m : M α} {v : α} {Q : α → Sto → Prop} (h : m = ret v) (q : Q v s) : runs m s Q := by rw [h, r_ret]; exact q
end
/-! ## the draws' cells -/
theorem runs_ix {s : Sto} {n : Nat} {ds : List D} {i : Nat} {d : D} {β : Type} {k : D → M β} {Q : β → Sto → Prop} (h : s[n]? = some (some (.lst ds))) (hi : ds[i]? = some d) (q : runs (k d) s Q) : runs (bnd (ixD (.loc n) (.int i)) k) s Q := by
  refine runs_bnd ⟨d, s, ?_, q⟩
  unfold ixD
  have e : viewR s (.loc n) = some ds := by
    show (match s[n]? with | some (some (.lst ds)) => some ds | _ => none) = _
    rw [h]
  rw [e]
  show (match L2.atI ds (i : Int) with | some d => R.ok d s | none => .no) = _
  rw [L2.atI_nat hi]
theorem runs_put {s : Sto} {n : Nat} {ds : List D} {i : Nat} {d : D} {β : Type} {k : Unit → M β} {Q : β → Sto → Prop} (h : s[n]? = some (some (.lst ds))) (hi : i < ds.length) (q : runs (k ()) (s.set n (some (.lst (ds.set i d)))) Q) : runs (bnd (putL (.loc n) (.int i) d) k) s Q := by
  refine runs_bnd ⟨(), _, ?_, q⟩
  show (match s[n]? with
    | some (some (.lst ds)) => match L2.ixN ds.length (i : Int) with
      | some m => R.ok () (s.set n (some (.lst (ds.set m d))))
      | none => .no
    | _ => .no) = _
  rw [h]
  have e : L2.ixN ds.length (i : Int) = some i := by
    unfold L2.ixN
    rw [if_pos (by omega), if_pos (by omega)]
    simp
  simp only [e]
/-- the cell of draws at n: its third number is at most t -/
structure Bag (s : Sto) (n : Nat) (t : Int) : Prop where
  ex : ∃ a b c : Int, s[n]? = some (some (.lst [.int a, .int b, .int c])) ∧ 0 ≤ c ∧ c ≤ t
/-- nothing but n has changed -/
structure Chg (n : Nat) (s s' : Sto) : Prop where
  len : s'.length = s.length
  at_ : ∀ m, m ≠ n → s'[m]? = s[m]?
theorem Chg.refl (n : Nat) (s : Sto) : Chg n s s := ⟨rfl, fun _ _ => rfl⟩
theorem Chg.trans {n : Nat} {a b c : Sto} (h : Chg n a b) (k : Chg n b c) : Chg n a c := ⟨k.len.trans h.len, fun m hm => (k.at_ m hm).trans (h.at_ m hm)⟩
theorem Chg.set (n : Nat) (s : Sto) (x : Option Cell) : Chg n s (s.set n x) := ⟨List.length_set, fun m hm => List.getElem?_set_ne (Ne.symm hm)⟩
theorem Bag.mono {s : Sto} {n : Nat} {t u : Int} (h : Bag s n t) (k : t ≤ u) : Bag s n u := let ⟨a, b, c, e, h1, h2⟩ := h.ex; ⟨a, b, c, e, h1, Int.le_trans h2 k⟩
section
variable {s : Sto} {n : Nat} {x y z d : D} {Q : D → Sto → Prop} {QU : Unit → Sto → Prop}
theorem r_ix {ds : List D} {i : Nat} (h : s[n]? = some (some (.lst ds))) (hi : ds[i]? = some d) : runs (ixD (.loc n) (.int i)) s Q = Q d s := by
  have e : ixD (.loc n) (.int i) s = .ok d s := by
    unfold ixD
    have e : viewR s (.loc n) = some ds := by
      show (match s[n]? with | some (some (.lst ds)) => some ds | _ => none) = _
      rw [h]
    rw [e]
    show (match L2.atI ds (i : Int) with | some d => R.ok d s | none => .no) = _
    rw [L2.atI_nat hi]
  unfold runs
  rw [e]
  exact propext ⟨fun ⟨_, _, e, q⟩ => by cases e; exact q, fun q => ⟨_, _, rfl, q⟩⟩
theorem r_bag0 (h : s[n]? = some (some (.lst [x, y, z]))) : runs (ixD (.loc n) (.int 0)) s Q = Q x s := r_ix (i := 0) h rfl
theorem r_bag1 (h : s[n]? = some (some (.lst [x, y, z]))) : runs (ixD (.loc n) (.int 1)) s Q = Q y s := r_ix (i := 1) h rfl
theorem r_bag2 (h : s[n]? = some (some (.lst [x, y, z]))) : runs (ixD (.loc n) (.int 2)) s Q = Q z s := r_ix (i := 2) h rfl
theorem r_put {ds : List D} {i : Nat} (h : s[n]? = some (some (.lst ds))) (hi : i < ds.length) : runs (putL (.loc n) (.int i) d) s QU = QU () (s.set n (some (.lst (ds.set i d)))) := by
  have e : putL (.loc n) (.int i) d s = .ok () (s.set n (some (.lst (ds.set i d)))) := by
    show (match s[n]? with
      | some (some (.lst ds)) => match L2.ixN ds.length (i : Int) with
        | some m => R.ok () (s.set n (some (.lst (ds.set m d))))
        | none => .no
      | _ => .no) = _
    rw [h]
    have e : L2.ixN ds.length (i : Int) = some i := by
      unfold L2.ixN
      rw [if_pos (by omega), if_pos (by omega)]
      simp
    simp only [e]
  unfold runs
  rw [e]
  exact propext ⟨fun ⟨_, _, e, q⟩ => by cases e; exact q, fun q => ⟨_, _, rfl, q⟩⟩
theorem r_put0 (h : s[n]? = some (some (.lst [x, y, z]))) : runs (putL (.loc n) (.int 0) d) s QU = QU () (s.set n (some (.lst [d, y, z]))) := r_put (i := 0) h (by simp)
theorem r_put2 (h : s[n]? = some (some (.lst [x, y, z]))) : runs (putL (.loc n) (.int 2) d) s QU = QU () (s.set n (some (.lst [x, y, d]))) := r_put (i := 2) h (by simp)
end
/-! ## cells of any list -/
section
variable {s : Sto} {n : Nat} {d : D} {ds : List D} {Q : D → Sto → Prop} {QU : Unit → Sto → Prop} {QL : List D → Sto → Prop}
theorem r_cell (h : s[n]? = some (some (.lst ds))) : runs (isCell (.loc n)) s QU = QU () s := by
  have e : isCell (.loc n) s = .ok () s := by
    show (match s[n]? with | some (some (.lst _)) => R.ok () s | _ => .no) = _
    rw [h]
  unfold runs
  rw [e]
  exact propext ⟨fun ⟨_, _, e, q⟩ => by cases e; exact q, fun q => ⟨_, _, rfl, q⟩⟩
theorem r_appD (h : s[n]? = some (some (.lst ds))) (hz : ds.length + 1 ≤ 16777216) : runs (appD (.loc n) d) s Q = Q .non (s.set n (some (.lst (ds ++ [d])))) := by
  have e : appD (.loc n) d s = .ok .non (s.set n (some (.lst (ds ++ [d])))) := by
    show (match s[n]? with | some (some (.lst ds)) => if szOk (ds.length + 1) = true then R.ok D.non (s.set n (some (.lst (ds ++ [d])))) else .no | _ => .no) = _
    rw [h]
    exact if_pos (sz_small hz)
  unfold runs
  rw [e]
  exact propext ⟨fun ⟨_, _, e, q⟩ => by cases e; exact q, fun q => ⟨_, _, rfl, q⟩⟩
theorem r_mklocN (hz : ds.length ≤ 16777216) : runs (mkLoc ds) s Q = Q (.loc s.length) (s ++ [some (.lst ds)]) := by
  have e : mkLoc ds s = .ok (.loc s.length) (s ++ [some (.lst ds)]) := if_pos (sz_small hz)
  unfold runs
  rw [e]
  exact propext ⟨fun ⟨_, _, e, q⟩ => by cases e; exact q, fun q => ⟨_, _, rfl, q⟩⟩
theorem r_slLoc {lo hi : Option Int} (h : s[n]? = some (some (.lst ds))) : runs (slD (.loc n) lo hi) s Q = Q (.lst (cutD ds lo hi)) s := by
  have e : slD (.loc n) lo hi s = .ok (.lst (cutD ds lo hi)) s := by
    show (match viewF s (.loc n) with | some ds => R.ok (D.lst (cutD ds lo hi)) s | none => .no) = _
    have : viewF s (.loc n) = some ds := by
      show (match s[n]? with | some (some (.lst ds)) => some ds | _ => none) = _
      rw [h]
    rw [this]
  unfold runs
  rw [e]
  exact propext ⟨fun ⟨_, _, e, q⟩ => by cases e; exact q, fun q => ⟨_, _, rfl, q⟩⟩
theorem r_lenLoc (h : s[n]? = some (some (.lst ds))) : runs (lenD (.loc n)) s Q = Q (.int (ds.length : Nat)) s := by
  have e : lenD (.loc n) s = .ok (.int (ds.length : Nat)) s := by
    show (match viewR s (.loc n) with | some ds => R.ok (D.int (ds.length : Nat)) s | none => .no) = _
    have : viewR s (.loc n) = some ds := by
      show (match s[n]? with | some (some (.lst ds)) => some ds | _ => none) = _
      rw [h]
    rw [this]
  unfold runs
  rw [e]
  exact propext ⟨fun ⟨_, _, e, q⟩ => by cases e; exact q, fun q => ⟨_, _, rfl, q⟩⟩
theorem vw_loc (h : s[n]? = some (some (.lst ds))) : vw s (.loc n) = .lst ds := by
  show (match s[n]? with | some (some (.lst ds)) => D.lst ds | _ => .loc n) = _
  rw [h]
theorem r_eqDD {x y x' y' : D} (hx : drf s x = x') (hy : drf s y = y') (ox : okD x' = true) (oy : okD y' = true) : runs (eqDD x y) s Q = Q (.bl (eqv x' y')) s := by
  have e : eqDD x y s = .ok (.bl (eqv x' y')) s := by
    unfold eqDD
    rw [hx, hy, ox, oy]; rfl
  unfold runs
  rw [e]
  exact propext ⟨fun ⟨_, _, e, q⟩ => by cases e; exact q, fun q => ⟨_, _, rfl, q⟩⟩
theorem r_neDD {x y x' y' : D} (hx : drf s x = x') (hy : drf s y = y') (ox : okD x' = true) (oy : okD y' = true) : runs (neDD x y) s Q = Q (.bl (!eqv x' y')) s := by
  have e : neDD x y s = .ok (.bl (!eqv x' y')) s := by
    unfold neDD
    rw [hx, hy, ox, oy]; rfl
  unfold runs
  rw [e]
  exact propext ⟨fun ⟨_, _, e, q⟩ => by cases e; exact q, fun q => ⟨_, _, rfl, q⟩⟩
/-- equality reads cells through -/
theorem r_eqVw {x y x' y' : D} (hx : vw s x = x') (hy : vw s y = y') (ox : okD x' = true) (oy : okD y' = true) : runs (eqD x y) s Q = Q (.bl (eqv x' y')) s := by
  have e : eqD x y s = .ok (.bl (eqv x' y')) s := by
    unfold eqD
    rw [hx, hy, ox, oy]; rfl
  unfold runs
  rw [e]
  exact propext ⟨fun ⟨_, _, e, q⟩ => by cases e; exact q, fun q => ⟨_, _, rfl, q⟩⟩
theorem r_neVw {x y x' y' : D} (hx : vw s x = x') (hy : vw s y = y') (ox : okD x' = true) (oy : okD y' = true) : runs (neD x y) s Q = Q (.bl (!eqv x' y')) s := by
  have e : neD x y s = .ok (.bl (!eqv x' y')) s := by
    unfold neD
    rw [hx, hy, ox, oy]; rfl
  unfold runs
  rw [e]
  exact propext ⟨fun ⟨_, _, e, q⟩ => by cases e; exact q, fun q => ⟨_, _, rfl, q⟩⟩
theorem r_seal {m : List D → M D} {es es' : List D} (h1 : drfs s es = es') (h2 : clDs es' = true) (h3 : ∀ s, runs (m es') s fun a _ => a = d) (hf : flatD d = true) : runs (sealD m es) s Q = Q d s := by
  have e : sealD m es s = .ok d s := by
    obtain ⟨a, s', e, rfl⟩ := h3 []
    unfold sealD
    rw [h1, if_pos h2, e]
    exact if_pos hf
  unfold runs
  rw [e]
  exact propext ⟨fun ⟨_, _, e, q⟩ => by cases e; exact q, fun q => ⟨_, _, rfl, q⟩⟩
section
variable {es : List D} {i : Int} {c : Bool}
theorem drfs_cons : drfs s (d :: es) = drf s d :: drfs s es := by rw [drfs]
theorem drfs_nil : drfs s [] = [] := by rw [drfs]
theorem drf_loc (h : s[n]? = some (some (.lst ds))) : drf s (.loc n) = .lst ds := by rw [drf, h] <;> rfl
theorem drf_lst : drf s (.lst ds) = .lst (drfs s ds) := by rw [drf]
theorem drf_tup : drf s (.tup ds) = .tup (drfs s ds) := by rw [drf]
theorem drf_int : drf s (.int i) = .int i := by rw [drf] <;> simp
theorem drf_bl : drf s (.bl c) = .bl c := by rw [drf] <;> simp
theorem drf_non : drf s .non = .non := by rw [drf] <;> simp
theorem clDs_cons : clDs (d :: es) = (clD d && clDs es) := by rw [clDs]
theorem clDs_nil : clDs [] = true := by rw [clDs]
theorem clD_lst : clD (.lst ds) = clDs ds := by rw [clD]
theorem clD_tup : clD (.tup ds) = clDs ds := by rw [clD]
theorem clD_int : clD (.int i) = true := by rw [clD] <;> simp
theorem clD_bl : clD (.bl c) = true := by rw [clD] <;> simp
theorem clD_non : clD .non = true := by rw [clD] <;> simp
end
theorem cells_ints : ∀ xs : List Int, clDs (xs.map D.int) = true
  | [] => rfl
  | x :: xs => by rw [List.map_cons]; unfold clDs clD; rw [cells_ints xs]; rfl
theorem drfs_ints : ∀ xs : List Int, drfs s (xs.map D.int) = xs.map D.int
  | [] => rfl
  | x :: xs => by rw [List.map_cons]; unfold drfs drf; rw [drfs_ints xs]
end
/-! ## comprehensions, run -/
section
variable {α : Type} {s : Sto} {ρ : En} {f : En → M D} {t : En → M Bool} {d a b : D}
theorem r_tYes {Q : Bool → Sto → Prop} : runs (tYesD ρ) s Q = Q true s := r_ret
theorem r_tgn {i : Nat} {Q : En → Sto → Prop} : runs (Tg.d (.nm i) d ρ) s Q = Q (ρ.set i (some d)) s := r_ret
theorem r_tg2 {i j : Nat} {Q : En → Sto → Prop} : runs (Tg.d (.tp [i, j]) (.tup [a, b]) ρ) s Q = Q ((ρ.set i (some a)).set j (some b)) s := r_ret
theorem w_nil : wipeD ρ [] = ρ := rfl
theorem w_cons {v : Nat} {vs : List Nat} : wipeD ρ (v :: vs) = (wipeD ρ vs).set v none := rfl
theorem runs_lc {body : D → M (Option D)} (I : Nat → List D → Sto → Prop) {ds : List D} {Q : List D → Sto → Prop} (h0 : I 0 [] s)
    (hs : ∀ (i : Nat) (d : D) (acc : List D) (s : Sto), ds[i]? = some d → I i acc s → runs (body d) s fun o s' => I (i + 1) (acc ++ o.toList) s')
    (hd : ∀ acc s, I ds.length acc s → Q acc s) : runs (lcL body ds) s Q := by
  have go : ∀ (l : List D) (j : Nat) (acc : List D) (s : Sto), ds.drop j = l → j + l.length = ds.length → I j acc s → runs (lcL body l) s fun ys s' => I ds.length (acc ++ ys) s' := by
    intro l
    induction l with
    | nil =>
      intro j acc s hl hj h
      have e : j = ds.length := by simpa using hj
      subst e
      refine runs_ret ?_
      rw [List.append_nil]; exact h
    | cons d l ih =>
      intro j acc s hl hj h
      have hd' : ds[j]? = some d := by
        have := congrArg (fun x => x[0]?) hl
        simpa using this
      refine runs_bnd (runs_mono (hs j d acc s hd' h) fun o s1 h1 => ?_)
      refine runs_bnd (runs_mono (ih (j + 1) _ s1 ?_ (by rw [List.length_cons] at hj; omega) h1) fun ys s2 h2 => runs_ret ?_)
      · have := congrArg List.tail hl
        rw [List.tail_drop] at this
        exact this
      · cases o with
        | none => simpa using h2
        | some y => simpa [List.append_assoc] using h2
  exact runs_mono (go ds 0 [] s rfl (by omega) h0) fun ys s' h => hd _ _ (by simpa using h)
theorem r_mkloc {x y z : D} {Q : D → Sto → Prop} : runs (mkLoc [x, y, z]) s Q = Q (.loc s.length) (s ++ [some (.lst [x, y, z])]) :=
  propext ⟨fun ⟨_, _, e, q⟩ => by cases e; exact q, fun q => ⟨_, _, rfl, q⟩⟩
theorem r_mkloc0 {Q : D → Sto → Prop} : runs (mkLoc []) s Q = Q (.loc s.length) (s ++ [some (.lst [])]) :=
  propext ⟨fun ⟨_, _, e, q⟩ => by cases e; exact q, fun q => ⟨_, _, rfl, q⟩⟩
theorem r_mkloc1 {x : D} {Q : D → Sto → Prop} : runs (mkLoc [x]) s Q = Q (.loc s.length) (s ++ [some (.lst [x])]) :=
  propext ⟨fun ⟨_, _, e, q⟩ => by cases e; exact q, fun q => ⟨_, _, rfl, q⟩⟩
end
theorem cutD_pre {xs : List D} {m : Nat} : cutD xs none (some (m : Int)) = xs.take m := by
  unfold cutD
  rw [show HT.sIx xs.length 0 none = 0 from rfl, show HT.sIx xs.length xs.length (some (m : Int)) = min m xs.length from HT.sIx_nat _ _ _, List.drop_zero, Nat.sub_zero]
  by_cases h : m ≤ xs.length
  · rw [Nat.min_eq_left h]
  · rw [Nat.min_eq_right (by omega), List.take_length, List.take_of_length_le (by omega)]
theorem sl_fz {ds : List D} {lo hi : Option Int} : slD (.fz ds) lo hi = ret (.lst (cutD ds lo hi)) := rfl
theorem sl_lst {ds : List D} {lo hi : Option Int} : slD (.lst ds) lo hi = ret (.lst (cutD ds lo hi)) := rfl
theorem sl_tup {ds : List D} {lo hi : Option Int} : slD (.tup ds) lo hi = ret (.tup (cutD ds lo hi)) := rfl
theorem list_lst {ds : List D} : listD (.lst ds) = ret ds := rfl
/-- nothing but n and what is new has changed -/
structure Chg2 (n : Nat) (s s' : Sto) : Prop where
  len : s.length ≤ s'.length
  at_ : ∀ m, m ≠ n → m < s.length → s'[m]? = s[m]?
theorem Chg.two {n : Nat} {s s' : Sto} (h : Chg n s s') : Chg2 n s s' := ⟨Nat.le_of_eq h.len.symm, fun m a _ => h.at_ m a⟩
theorem Chg2.refl (n : Nat) (s : Sto) : Chg2 n s s := ⟨Nat.le_refl _, fun _ _ _ => rfl⟩
theorem Chg2.trans {n : Nat} {a b c : Sto} (h : Chg2 n a b) (k : Chg2 n b c) : Chg2 n a c := ⟨Nat.le_trans h.len k.len, fun m hm hl => (k.at_ m hm (Nat.lt_of_lt_of_le hl h.len)).trans (h.at_ m hm hl)⟩
theorem Bag.lt {s : Sto} {n : Nat} {t : Int} (h : Bag s n t) : n < s.length := let ⟨_, _, _, e, _⟩ := h.ex; (List.getElem?_eq_some_iff.mp e).1
theorem Bag.keep {s s' : Sto} {n m : Nat} {t : Int} (h : Bag s m t) (c : Chg2 n s s') (hm : m ≠ n) : Bag s' m t :=
  let ⟨a, b, x, e, h1, h2⟩ := h.ex; ⟨a, b, x, (c.at_ m hm h.lt).trans e, h1, h2⟩
theorem runs_bags {body : D → En → M Fl} {k : Nat} (Sh : En → Prop) {T : Int} {ρ : En} {s : Sto} {Q : Fl → Sto → Prop} (hb : ∀ j, j < k → Bag s j T) (h0 : Sh ρ)
    (hs : ∀ (n : Nat) (ρ : En) (s : Sto), Sh ρ → Bag s n T → runs (body (.loc n) ρ) s fun fl s' => ∃ ρ', fl = .nx ρ' ∧ Sh ρ' ∧ Chg2 n s s') (hd : ∀ ρ s, Sh ρ → Q (.nx ρ) s) : runs (forL body ((List.range k).map D.loc) ρ) s Q := by
  refine runs_for (fun i ρ s => Sh ρ ∧ ∀ j, i ≤ j → j < k → Bag s j T) ⟨h0, fun j _ h => hb j h⟩ (fun i d ρ s hi h => ?_) fun ρ s h => hd ρ s h.1
  have hi' : d = .loc i ∧ i < k := by
    rw [List.getElem?_map] at hi
    cases q : (List.range k)[i]? with
    | none => rw [q] at hi; cases hi
    | some j =>
      rw [q] at hi
      obtain ⟨h1, h2⟩ := List.getElem?_eq_some_iff.mp q
      rw [List.length_range] at h1
      have : j = i := by simpa using h2.symm
      subst this
      exact ⟨(Option.some.inj hi).symm, h1⟩
  obtain ⟨rfl, hk⟩ := hi'
  refine runs_mono (hs i ρ s h.1 (h.2 i (Nat.le_refl _) hk)) ?_
  rintro fl s' ⟨ρ', rfl, h1, h2⟩
  exact ⟨ρ', rfl, h1, fun j hj hjk => (h.2 j (by omega) hjk).keep h2 (by omega)⟩
end DL

namespace DL
open PySem
/-! ## plain data that may be compared -/
def smp : Nat → D → Bool
  | _, .non => true
  | _, .bl _ => true
  | _, .int _ => true
  | n + 1, .tup ds => ds.all (smp n)
  | n + 1, .lst ds => ds.all (smp n)
  | _, _ => false
theorem smp_lays {n : Nat} (ih : ∀ d, smp n d = true → d.py.canLay0 = true ∧ d.py.depth ≤ n) : ∀ ds : List D, ds.all (smp n) = true → PyData.canLayAll0 (D.pys ds) = true ∧ PyData.depthAll (D.pys ds) ≤ n
  | [], _ => ⟨by unfold D.pys PyData.canLayAll0; rfl, by unfold D.pys PyData.depthAll; exact Nat.zero_le _⟩
  | d :: ds, h => by
    rw [List.all_cons, Bool.and_eq_true] at h
    obtain ⟨h1, h2⟩ := ih d h.1
    obtain ⟨h3, h4⟩ := smp_lays ih ds h.2
    unfold D.pys PyData.canLayAll0 PyData.depthAll
    exact ⟨by rw [h1, h3]; rfl, Nat.max_le.mpr ⟨h2, h4⟩⟩
theorem smp_lay : ∀ (n : Nat) (d : D), smp n d = true → d.py.canLay0 = true ∧ d.py.depth ≤ n := by
  intro n
  induction n with
  | zero =>
    intro d h
    cases d <;> first | (unfold D.py PyData.canLay0 PyData.depth; exact ⟨rfl, Nat.le_refl _⟩) | cases h
  | succ n ih =>
    intro d h
    cases d with
    | non => unfold D.py PyData.canLay0 PyData.depth; exact ⟨rfl, Nat.zero_le _⟩
    | bl b => unfold D.py PyData.canLay0 PyData.depth; exact ⟨rfl, Nat.zero_le _⟩
    | int b => unfold D.py PyData.canLay0 PyData.depth; exact ⟨rfl, Nat.zero_le _⟩
    | tup ds =>
      obtain ⟨h1, h2⟩ := smp_lays ih ds h
      unfold D.py PyData.canLay0 PyData.depth
      exact ⟨h1, Nat.succ_le_succ h2⟩
    | lst ds =>
      obtain ⟨h1, h2⟩ := smp_lays ih ds h
      unfold D.py PyData.canLay0 PyData.depth
      exact ⟨h1, Nat.succ_le_succ h2⟩
    | str x => cases h
    | fz x => cases h
    | gl x => cases h
    | loc x => cases h
theorem smp_ok {d : D} (h : smp 9 d = true) : okD d = true := by
  obtain ⟨h1, h2⟩ := smp_lay 9 d h
  unfold okD SeqAt.shaped
  rw [h1, decide_eq_true (show d.py.depth ≤ 64 by omega)]; rfl
theorem vw_smp {d : D} {s : Sto} (h : smp 9 d = true) : vw s d = d := vw_self (smp_ok h)
theorem p_eq_smp {x y : D} (hx : smp 9 x = true) (hy : smp 9 y = true) : eqD x y = ret (.bl (eqv x y)) := by
  funext s
  unfold eqD
  rw [vw_smp hx, vw_smp hy, smp_ok hx, smp_ok hy]; rfl
theorem p_ne_smp {x y : D} (hx : smp 9 x = true) (hy : smp 9 y = true) : neD x y = ret (.bl (!eqv x y)) := by
  funext s
  unfold neD
  rw [vw_smp hx, vw_smp hy, smp_ok hx, smp_ok hy]; rfl
theorem smp_ints {n : Nat} : ∀ xs : List Int, (xs.map D.int).all (smp n) = true
  | [] => rfl
  | x :: xs => by rw [List.map_cons, List.all_cons, smp_ints xs]; cases n <;> rfl
theorem smp_il (xs : List Int) : smp 9 (.lst (xs.map D.int)) = true := smp_ints xs
theorem smp_it (xs : List Int) : smp 9 (.tup (xs.map D.int)) = true := smp_ints xs
theorem eqv_ints : ∀ xs ys : List Int, PyData.eqvAll (D.pys (xs.map D.int)) (D.pys (ys.map D.int)) = decide (xs = ys)
  | [], [] => by rw [decide_eq_true rfl]; rfl
  | [], y :: ys => by rw [decide_eq_false (by simp)]; rfl
  | x :: xs, [] => by rw [decide_eq_false (by simp)]; rfl
  | x :: xs, y :: ys => by
    show (x == y && PyData.eqvAll (D.pys (xs.map D.int)) (D.pys (ys.map D.int))) = _
    rw [eqv_ints xs ys]
    by_cases h : x = y
    · by_cases h2 : xs = ys
      · rw [decide_eq_true h2, decide_eq_true (by rw [h, h2]), show (x == y) = true from by simpa using h]; rfl
      · rw [decide_eq_false h2, decide_eq_false (by simp [h2]), Bool.and_false]
    · rw [decide_eq_false (fun e => h (List.cons.inj e).1), show (x == y) = false from by simpa using h]; rfl
theorem p_eq_ints {xs ys : List Int} : eqD (.lst (xs.map D.int)) (.lst (ys.map D.int)) = ret (.bl (decide (xs = ys))) := by
  rw [p_eq_smp (smp_il xs) (smp_il ys)]
  exact congrArg (fun b => ret (D.bl b)) (eqv_ints xs ys)
theorem p_ne_ints {xs ys : List Int} : neD (.lst (xs.map D.int)) (.lst (ys.map D.int)) = ret (.bl (!decide (xs = ys))) := by
  rw [p_ne_smp (smp_il xs) (smp_il ys)]
  exact congrArg (fun b => ret (D.bl (!b))) (eqv_ints xs ys)
theorem p_eq_nil {xs : List Int} : eqD (.lst (xs.map D.int)) (.lst []) = ret (.bl (decide (xs = []))) := p_eq_ints (ys := [])
theorem p_ne_nil {xs : List Int} : neD (.lst (xs.map D.int)) (.lst []) = ret (.bl (!decide (xs = []))) := p_ne_ints (ys := [])
theorem p_eq_t2 {a b c d : Int} : eqD (.tup [.int a, .int b]) (.tup [.int c, .int d]) = ret (.bl ((a == c) && ((b == d) && true))) := p_eq_smp rfl rfl
theorem p_ne_t2 {a b c d : Int} : neD (.tup [.int a, .int b]) (.tup [.int c, .int d]) = ret (.bl (!((a == c) && ((b == d) && true)))) := p_ne_smp rfl rfl
section
variable {ds : List D} {i : Int} {c : Bool}
theorem b_tf : (true == false) = false := rfl
theorem b_ft : (false == true) = false := rfl
theorem p_tup5 {a b c d e : D} : mkTup [a, b, c, d, e] = ret (.tup [a, b, c, d, e]) := rfl
theorem p_tup6 {a b c d e f : D} : mkTup [a, b, c, d, e, f] = ret (.tup [a, b, c, d, e, f]) := rfl
theorem p_lst6 {a b c d e f : D} : mkLst [a, b, c, d, e, f] = ret (.lst [a, b, c, d, e, f]) := rfl
theorem n_non : D.non.isNon = true := rfl
theorem n_tup : (D.tup ds).isNon = false := rfl
theorem n_lst : (D.lst ds).isNon = false := rfl
theorem n_int : (D.int i).isNon = false := rfl
theorem n_bl : (D.bl c).isNon = false := rfl
end
/-! ## lists of numbers -/
def rgI (lo : Int) (n : Nat) : List Int := (List.range n).map fun i => lo + (i : Nat)
theorem rgD_rgI (lo : Int) (n : Nat) : rgD lo n = (rgI lo n).map D.int := by
  unfold rgD rgI
  rw [List.map_map]; rfl
theorem rgI_len (lo : Int) (n : Nat) : (rgI lo n).length = n := by unfold rgI; rw [List.length_map, List.length_range]
theorem mem_rgI {lo x : Int} {n : Nat} : x ∈ rgI lo n ↔ lo ≤ x ∧ x < lo + n := by
  unfold rgI
  rw [List.mem_map]
  constructor
  · rintro ⟨i, hi, rfl⟩
    have := List.mem_range.mp hi
    omega
  · rintro ⟨h1, h2⟩
    exact ⟨(x - lo).toNat, List.mem_range.mpr (by omega), by omega⟩
theorem lc_filter {body : D → M (Option D)} {p : Int → Bool} : ∀ {xs : List Int}, (∀ x ∈ xs, body (.int x) = ret (br (p x) (some (.int x)) none)) → lcL body (xs.map D.int) = ret ((xs.filter p).map D.int)
  | [], _ => rfl
  | x :: xs, h => by
    show bnd (body (.int x)) _ = _
    rw [h x List.mem_cons_self, lc_filter (fun y hy => h y (List.mem_cons_of_mem _ hy)), List.filter_cons]
    cases q : p x <;> rfl
theorem lc_map {body : D → M (Option D)} {f : Int → D} : ∀ {xs : List Int}, (∀ x ∈ xs, body (.int x) = ret (some (f x))) → lcL body (xs.map D.int) = ret (xs.map f)
  | [], _ => rfl
  | x :: xs, h => by
    show bnd (body (.int x)) _ = _
    rw [h x List.mem_cons_self, lc_map (fun y hy => h y (List.mem_cons_of_mem _ hy))]
    rfl
section
variable {α : Type} {s : Sto} {ρ : En} {f g : En → M α} {Q : α → Sto → Prop} {c : Bool}
/-- a fork, both roads of which meet -/
theorem kif_mid (P : α → Sto → Prop) (h1 : c = true → runs (f ρ) s P) (h2 : c = false → runs (g ρ) s P) (h3 : ∀ d s', P d s' → Q d s') : kIf f g ρ Q c s := by
  cases c with
  | true => exact runs_mono (h1 rfl) h3
  | false => exact runs_mono (h2 rfl) h3
theorem kba_mid {t2 : En → M Bool} {QB : Bool → Sto → Prop} (r : Bool) (h1 : c = true → runs (t2 ρ) s fun k s' => k = r ∧ s' = s) (h2 : c = false → r = false) (h3 : QB r s) : kBa t2 ρ QB c s := by
  cases c with
  | true => exact runs_mono (h1 rfl) fun k s' h => by rw [h.1, h.2]; exact h3
  | false => rw [h2 rfl] at h3; exact h3
theorem kbo_mid {t2 : En → M Bool} {QB : Bool → Sto → Prop} (r : Bool) (h1 : c = false → runs (t2 ρ) s fun k s' => k = r ∧ s' = s) (h2 : c = true → r = true) (h3 : QB r s) : kBo t2 ρ QB c s := by
  cases c with
  | false => exact runs_mono (h1 rfl) fun k s' h => by rw [h.1, h.2]; exact h3
  | true => rw [h2 rfl] at h3; exact h3
theorem runs_eq {m : M α} {v : α} (h : m = ret v) : runs m s Q = Q v s := by rw [h, r_ret]
end
end DL
namespace DL
open PySem
theorem cutD_init {xs : List D} {d : D} : cutD (xs ++ [d]) none (some (-1)) = xs := by
  unfold cutD
  rw [show HT.sIx (xs ++ [d]).length 0 none = 0 from rfl, List.drop_zero, Nat.sub_zero]
  have e : HT.sIx (xs ++ [d]).length (xs ++ [d]).length (some (-1)) = xs.length := by
    show (if (-1 : Int) < 0 then ((-1 : Int) + ((xs ++ [d]).length : Int)).toNat else min (-1 : Int).toNat (xs ++ [d]).length) = _
    rw [if_pos (by decide), List.length_append, List.length_singleton]
    omega
  rw [e, List.take_left]
theorem Chg2.app (n : Nat) (s t : Sto) : Chg2 n s (s ++ t) := ⟨by rw [List.length_append]; omega, fun m _ h => List.getElem?_append_left h⟩
theorem Chg2.setNew {n m : Nat} {s s1 : Sto} {x : Option Cell} (h : Chg2 n s s1) (hm : s.length ≤ m) : Chg2 n s (s1.set m x) := ⟨by rw [List.length_set]; exact h.len, fun k hk hl => (List.getElem?_set_ne (by omega)).trans (h.at_ k hk hl)⟩
theorem at_new {s : Sto} {x : Option Cell} : (s ++ [x])[s.length]? = some x := by
  rw [List.getElem?_append_right (Nat.le_refl _), Nat.sub_self]; rfl
theorem at_old {s t : Sto} {n : Nat} {x : Option Cell} (h : s[n]? = some x) : (s ++ t)[n]? = some x := by
  rw [List.getElem?_append_left (List.getElem?_eq_some_iff.mp h).1]; exact h
theorem lt_of_at {s : Sto} {n : Nat} {x : Option Cell} (h : s[n]? = some x) : n < s.length := (List.getElem?_eq_some_iff.mp h).1
theorem at_set {s : Sto} {n : Nat} {x y : Option Cell} (h : s[n]? = some x) : (s.set n y)[n]? = some y := List.getElem?_set_self (lt_of_at h)
theorem rgI_succ (lo : Int) (n : Nat) : rgI lo (n + 1) = rgI lo n ++ [lo + (n : Nat)] := by
  unfold rgI
  rw [List.range_succ, List.map_append]; rfl
theorem filter_rgI {l lo hi : Int} (hl : l ≤ lo) : ∀ n : Nat, (rgI l n).filter (fun x => decide (lo ≤ x) && decide (x ≤ hi)) = rgI lo (min (hi + 1) (l + n) - lo).toNat
  | 0 => by
    rw [show (min (hi + 1) (l + (0 : Nat)) - lo).toNat = 0 from by omega]; rfl
  | n + 1 => by
    rw [rgI_succ, List.filter_append, filter_rgI hl n]
    by_cases h : lo ≤ l + (n : Nat) ∧ l + (n : Nat) ≤ hi
    · have e1 : (min (hi + 1) (l + ((n + 1 : Nat) : Int)) - lo).toNat = (min (hi + 1) (l + (n : Int)) - lo).toNat + 1 := by omega
      rw [e1, rgI_succ]
      congr 1
      rw [List.filter_cons, decide_eq_true h.1, decide_eq_true h.2]
      show [l + (n : Nat)] = _
      congr 1
      omega
    · have e1 : (min (hi + 1) (l + ((n + 1 : Nat) : Int)) - lo).toNat = (min (hi + 1) (l + (n : Int)) - lo).toNat := by omega
      rw [e1]
      have : (decide (lo ≤ l + (n : Nat)) && decide (l + (n : Nat) ≤ hi)) = false := by
        rw [Bool.and_eq_false_iff]
        by_cases h1 : lo ≤ l + (n : Nat)
        · exact .inr (decide_eq_false fun h2 => h ⟨h1, h2⟩)
        · exact .inl (decide_eq_false h1)
      rw [List.filter_cons, this]
      show _ ++ [] = _
      rw [List.append_nil]
theorem p_sort {xs : List Int} (h : xs.length ≤ 16777216) : sortD (.lst (xs.map D.int)) = ret (.lst ((isort xs).map D.int)) := by
  funext s
  show (match intsD (xs.map D.int) with | some ns => mkLst ((isort ns).map D.int) s | none => R.no) = _
  rw [intsD_map]
  show mkLst ((isort xs).map D.int) s = _
  rw [p_mkLst_of (sz_small (by rw [List.length_map, (isort_perm xs).length_eq]; exact h))]
theorem all_tt : ∀ n : Nat, blsD (List.replicate n (D.bl true)) = some (List.replicate n true)
  | 0 => rfl
  | n + 1 => by
    rw [List.replicate_succ, List.replicate_succ]
    unfold blsD
    rw [all_tt n]; rfl
theorem allD_tt {s : Sto} {n : Nat} {Q : D → Sto → Prop} : runs (allD (.lst (List.replicate n (D.bl true)))) s Q = Q (.bl true) s := by
  have e : allD (.lst (List.replicate n (D.bl true))) s = .ok (.bl true) s := by
    show (match blsD (List.replicate n (D.bl true)) with | some ns => R.ok (D.bl (ns.all _root_.id)) s | none => .no) = _
    rw [all_tt]
    show R.ok (D.bl ((List.replicate n true).all _root_.id)) s = _
    congr 2
    induction n with
    | zero => rfl
    | succ n ih => rw [List.replicate_succ, List.all_cons, ih]; rfl
  unfold runs
  rw [e]
  exact propext ⟨fun ⟨_, _, e, q⟩ => by cases e; exact q, fun q => ⟨_, _, rfl, q⟩⟩
end DL
namespace DL
open PySem
theorem atI_last {xs : List D} {d : D} : L2.atI (xs ++ [d]) (-1) = some d := by
  unfold L2.atI L2.ixN
  rw [if_neg (by decide), if_pos (by rw [List.length_append, List.length_singleton]; omega)]
  show (xs ++ [d])[_]? = _
  rw [List.length_append, List.length_singleton]
  rw [show (-1 + ((xs.length + 1 : Nat) : Int)).toNat = xs.length from by omega]; simp
section
variable {s : Sto} {n : Nat} {d : D} {ds : List D} {i : Int} {Q : D → Sto → Prop}
theorem r_ixLoc (h : s[n]? = some (some (.lst ds))) (hi : L2.atI ds i = some d) : runs (ixD (.loc n) (.int i)) s Q = Q d s := by
  have e : ixD (.loc n) (.int i) s = .ok d s := by
    have e : viewR s (.loc n) = some ds := by
      show (match s[n]? with | some (some (.lst ds)) => some ds | _ => none) = _
      rw [h]
    unfold ixD
    rw [e]
    show (match L2.atI ds i with | some d => R.ok d s | none => .no) = _
    rw [hi]
  unfold runs
  rw [e]
  exact propext ⟨fun ⟨_, _, e, q⟩ => by cases e; exact q, fun q => ⟨_, _, rfl, q⟩⟩
theorem p_ix_at (hi : L2.atI ds i = some d) : ixD (.lst ds) (.int i) = ret d := by
  funext s
  show (match L2.atI ds i with | some d => R.ok d s | none => .no) = _
  rw [hi]; rfl
theorem r_frzLoc (h : s[n]? = some (some (.lst ds))) : runs (frz (.loc n)) s Q = Q (.lst ds) (s.set n none) := by
  have e : frz (.loc n) s = .ok (.lst ds) (s.set n none) := by
    show (match s[n]? with | some (some (.lst ds)) => R.ok (D.lst ds) (s.set n none) | _ => .no) = _
    rw [h]
  unfold runs
  rw [e]
  exact propext ⟨fun ⟨_, _, e, q⟩ => by cases e; exact q, fun q => ⟨_, _, rfl, q⟩⟩
theorem set_last {x y : Option Cell} : (s ++ [x]).set s.length y = s ++ [y] := by
  rw [List.set_append_right _ _ (Nat.le_refl _), Nat.sub_self]; rfl
theorem cutD_tail {x : D} {xs : List D} : cutD (x :: xs) (some 1) none = xs := by
  unfold cutD
  rw [show HT.sIx (x :: xs).length (x :: xs).length none = (x :: xs).length from rfl, show HT.sIx (x :: xs).length 0 (some 1) = min 1 (x :: xs).length from HT.sIx_nat _ _ 1]
  rw [List.length_cons, show min 1 (xs.length + 1) = 1 from by omega, List.drop_one, List.tail_cons]
  exact List.take_of_length_le (by omega)
theorem any_il (x : Int) : ∀ xs : List Int, ((xs.map D.int).any fun z => eqv z (.int x)) = decide (x ∈ xs)
  | [] => by rw [decide_eq_false (by simp)]; rfl
  | y :: xs => by
    have e : ((D.int y :: xs.map D.int).any fun z => eqv z (.int x)) = (y == x || (xs.map D.int).any fun z => eqv z (.int x)) := rfl
    rw [List.map_cons, e, any_il x xs]
    by_cases h : y = x
    · subst h
      rw [beq_self_eq_true, decide_eq_true List.mem_cons_self]; rfl
    · rw [show (y == x) = false from by simpa using h]
      by_cases h2 : x ∈ xs
      · rw [decide_eq_true h2, decide_eq_true (List.mem_cons_of_mem _ h2)]; rfl
      · rw [decide_eq_false h2, decide_eq_false (fun e => (List.mem_cons.mp e).elim (fun e => h e.symm) h2)]; rfl
theorem p_in_il {x : Int} {xs : List Int} : memD false (.int x) (.lst (xs.map D.int)) = ret (.bl (decide (x ∈ xs))) := by
  funext s
  show (if (okD (.int x) && okD (.lst (xs.map D.int))) = true then R.ok (D.bl (if false = true then !(xs.map D.int).any fun z => eqv z (.int x) else (xs.map D.int).any fun z => eqv z (.int x))) s else R.no) = _
  rw [smp_ok (smp_il xs), if_pos (by rfl), any_il]; rfl
theorem p_notin_il {x : Int} {xs : List Int} : memD true (.int x) (.lst (xs.map D.int)) = ret (.bl (!decide (x ∈ xs))) := by
  funext s
  show (if (okD (.int x) && okD (.lst (xs.map D.int))) = true then R.ok (D.bl (if true = true then !(xs.map D.int).any fun z => eqv z (.int x) else (xs.map D.int).any fun z => eqv z (.int x))) s else R.no) = _
  rw [smp_ok (smp_il xs), if_pos (by rfl), any_il]; rfl
end
theorem lc_mapG {α : Type} {body : D → M (Option D)} {f g : α → D} : ∀ {xs : List α}, (∀ x ∈ xs, body (f x) = ret (some (g x))) → lcL body (xs.map f) = ret (xs.map g)
  | [], _ => rfl
  | x :: xs, h => by
    show bnd (body (f x)) _ = _
    rw [h x List.mem_cons_self, lc_mapG (fun y hy => h y (List.mem_cons_of_mem _ hy))]
    rfl
theorem zipDs_il : ∀ xs ys : List Int, zipDs (xs.map D.int) (ys.map D.int) = (xs.zip ys).map fun q => D.tup [.int q.1, .int q.2]
  | [], _ => rfl
  | _ :: _, [] => rfl
  | x :: xs, y :: ys => by
    have := zipDs_il xs ys
    unfold zipDs at this ⊢
    rw [List.map_cons, List.map_cons, List.zipWith_cons_cons, this]; rfl
/-- a loop that may be left by a return -/
theorem runs_forR {body : D → En → M Fl} (I : Nat → En → Sto → Prop) {ds : List D} {ρ : En} {s : Sto} {Q : Fl → Sto → Prop} (h0 : I 0 ρ s)
    (hs : ∀ (i : Nat) (d : D) (ρ : En) (s : Sto), ds[i]? = some d → I i ρ s → runs (body d ρ) s fun fl s' => (∃ ρ', fl = .nx ρ' ∧ I (i + 1) ρ' s') ∨ ∃ d, fl = .rt d ∧ Q (.rt d) s')
    (hd : ∀ ρ s, I ds.length ρ s → Q (.nx ρ) s) : runs (forL body ds ρ) s Q := by
  have go : ∀ (l : List D) (j : Nat) (ρ : En) (s : Sto), ds.drop j = l → j + l.length = ds.length → I j ρ s → runs (forL body l ρ) s Q := by
    intro l
    induction l with
    | nil =>
      intro j ρ s hl hj h
      have e : j = ds.length := by simpa using hj
      subst e
      exact runs_ret (hd ρ s h)
    | cons d l ih =>
      intro j ρ s hl hj h
      have hd' : ds[j]? = some d := by
        have := congrArg (fun x => x[0]?) hl
        simpa using this
      refine runs_bnd (runs_mono (hs j d ρ s hd' h) ?_)
      rintro fl s' (⟨ρ', rfl, h'⟩ | ⟨d', rfl, h'⟩)
      · refine ih (j + 1) ρ' s' ?_ (by rw [List.length_cons] at hj; omega) h'
        have := congrArg List.tail hl
        rw [List.tail_drop] at this
        exact this
      · exact runs_ret h'
  exact go ds 0 ρ s rfl (by omega) h0
end DL
namespace DL
open PySem
section
variable {s : Sto} {QB : Bool → Sto → Prop} {ρ : En} {f : En → M D} {g : D → D → M D} {r : D → En → M Bool} {x y : D}
def kCh (r : D → En → M Bool) (ρ : En) (QB : Bool → Sto → Prop) (x : D) (s : Sto) : Prop := runs (r x ρ) s QB
def kCh2 (r : D → En → M Bool) (y : D) (ρ : En) (QB : Bool → Sto → Prop) (c : Bool) (s : Sto) : Prop := br c (runs (r y ρ) s QB) (QB false s)
def kCh1 (g : D → D → M D) (x : D) (r : D → En → M Bool) (ρ : En) (QB : Bool → Sto → Prop) (y : D) (s : Sto) : Prop := runs (g x y) s (kM asB (kCh2 r y ρ QB))
theorem r_chT : runs (chT f r ρ) s QB = runs (f ρ) s (kCh r ρ QB) := by
  show runs (bnd _ _) s QB = _
  rw [r_bnd]; rfl
theorem r_kch : kCh r ρ QB x s = runs (r x ρ) s QB := rfl
theorem r_chC : runs (chC g f r x ρ) s QB = runs (f ρ) s (kCh1 g x r ρ QB) := by
  show runs (bnd _ _) s QB = _
  rw [r_bnd]
  congr 1
  funext y s1
  show runs (bnd _ _) _ _ = _
  rw [r_bnd]
  congr 1
  funext z s2
  show runs (bnd _ _) _ _ = _
  rw [r_bnd]
  unfold kM
  congr 1
  funext k s3
  rw [r_br, r_ret]; rfl
theorem r_kch1 : kCh1 g x r ρ QB y s = runs (g x y) s (kM asB (kCh2 r y ρ QB)) := rfl
theorem r_kch2t : kCh2 r y ρ QB true s = runs (r y ρ) s QB := rfl
theorem r_kch2f : kCh2 r y ρ QB false s = QB false s := rfl
def kCh3 (g : D → D → M D) (x : D) (QB : Bool → Sto → Prop) (y : D) (s : Sto) : Prop := runs (g x y) s (kM asB QB)
theorem r_chL : runs (chL g f x ρ) s QB = runs (f ρ) s (kCh3 g x QB) := by
  show runs (bnd _ _) s QB = _
  rw [r_bnd]
  congr 1
  funext y s1
  exact r_bnd
theorem r_kch3 : kCh3 g x QB y s = runs (g x y) s (kM asB QB) := rfl
theorem r_tg3 {i j k : Nat} {a b c : D} {Q : En → Sto → Prop} : runs (Tg.d (.tp [i, j, k]) (.tup [a, b, c]) ρ) s Q = Q (((ρ.set i (some a)).set j (some b)).set k (some c)) s := r_ret
end
end DL
namespace DL
open PySem
theorem lc_filterG {α : Type} {body : D → M (Option D)} {f g : α → D} {p : α → Bool} : ∀ {xs : List α}, (∀ x ∈ xs, body (f x) = ret (br (p x) (some (g x)) none)) → lcL body (xs.map f) = ret ((xs.filter p).map g)
  | [], _ => rfl
  | x :: xs, h => by
    show bnd (body (f x)) _ = _
    rw [h x List.mem_cons_self, lc_filterG (fun y hy => h y (List.mem_cons_of_mem _ hy)), List.filter_cons]
    cases q : p x <;> rfl
theorem p_in_smp {x : D} {ds : List D} (hx : smp 9 x = true) (hd : smp 9 (.lst ds) = true) : memD false x (.lst ds) = ret (.bl (ds.any fun z => eqv z x)) := by
  funext s
  show (match vw s (.lst ds) with
    | .lst ds => if (okD x && okD (.lst ds)) = true then R.ok (D.bl (if false = true then !ds.any fun z => eqv z x else ds.any fun z => eqv z x)) s else R.no
    | _ => R.no) = _
  show (if (okD x && okD (.lst ds)) = true then R.ok (D.bl (if false = true then !ds.any fun z => eqv z x else ds.any fun z => eqv z x)) s else R.no) = _
  rw [smp_ok hx, smp_ok hd]; rfl
theorem p_notin_smp {x : D} {ds : List D} (hx : smp 9 x = true) (hd : smp 9 (.lst ds) = true) : memD true x (.lst ds) = ret (.bl (!ds.any fun z => eqv z x)) := by
  funext s
  show (if (okD x && okD (.lst ds)) = true then R.ok (D.bl (if true = true then !ds.any fun z => eqv z x else ds.any fun z => eqv z x)) s else R.no) = _
  rw [smp_ok hx, smp_ok hd]; rfl
theorem p_add_tup {xs ys : List D} (h : (xs ++ ys).length ≤ 16777216) : addD (.tup xs) (.tup ys) = ret (.tup (xs ++ ys)) := by
  funext s
  show mkTup (xs ++ ys) s = _
  rw [p_mkTup_of (sz_small h)]
end DL
namespace DL
open PySem
theorem cutD_drop {xs : List D} {m : Nat} : cutD xs (some (m : Int)) none = xs.drop m := by
  unfold cutD
  rw [show HT.sIx xs.length xs.length none = xs.length from rfl, show HT.sIx xs.length 0 (some (m : Int)) = min m xs.length from HT.sIx_nat _ _ m]
  by_cases h : m ≤ xs.length
  · rw [Nat.min_eq_left h]
    exact List.take_of_length_le (by rw [List.length_drop]; omega)
  · rw [Nat.min_eq_right (by omega), List.drop_length, List.drop_eq_nil_of_le (by omega)]
    simp
theorem eqv_self {d : D} (h : smp 9 d = true) : eqv d d = true := SeqAt.eqv_refl d.py (smp_lay 9 d h).1
end DL

namespace DL
/-! ## the numbers of detours -/
theorem bezout (m n : Nat) : ∃ x y : Int, x * m + y * n = (Nat.gcd m n : Nat) := by
  induction m, n using Nat.gcd.induction with
  | H0 n => exact ⟨0, 1, by rw [Nat.gcd_zero_left]; omega⟩
  | H1 m n h ih =>
    obtain ⟨x, y, e⟩ := ih
    refine ⟨y - x * (n / m), x, ?_⟩
    rw [Nat.gcd_rec, ← e]
    have h3 : ((n % m : Nat) : Int) = n - m * (n / m) := by
      rw [Int.natCast_emod, Int.emod_def]
    rw [h3, Int.sub_mul, Int.mul_sub]
    have h4 : x * (↑n / ↑m) * ↑m = x * (↑m * (↑n / ↑m)) := by rw [Int.mul_assoc, Int.mul_comm (↑n / ↑m : Int)]
    rw [h4]; omega
def gI (b a : Int) : Int := (Nat.gcd b.toNat a.toNat : Nat)
theorem gI_zero {x : Int} (h : 0 ≤ x) : gI x 0 = x := by
  unfold gI
  rw [show (0 : Int).toNat = 0 from rfl, Nat.gcd_zero_right]
  omega
theorem gI_step {x y : Int} (hx : 0 ≤ x) (hy : 0 ≤ y) : gI y (x % y) = gI x y := by
  unfold gI
  rw [Int.toNat_emod hx hy, Nat.gcd_comm x.toNat y.toNat, Nat.gcd_rec y.toNat x.toNat, Nat.gcd_comm]
/-- g is the common factor of b and a -/
structure IsG (b a g : Int) : Prop where
  pos : 0 < g
  b_ : ∃ k, b = g * k
  a_ : ∃ k, a = g * k ∧ 0 < k
  bz : ∃ x y : Int, x * b + y * a = g
theorem isG_gcd {b a : Nat} (hb : 0 < b) (ha : 0 < a) : IsG b a (Nat.gcd b a : Nat) := by
  have hp : 0 < Nat.gcd b a := Nat.gcd_pos_of_pos_left _ hb
  refine ⟨by omega, ?_, ?_, bezout b a⟩
  · obtain ⟨k, e⟩ := Nat.gcd_dvd_left b a
    refine ⟨k, ?_⟩
    rw [← Int.natCast_mul, ← e]
  · obtain ⟨k, e⟩ := Nat.gcd_dvd_right b a
    refine ⟨k, ?_, ?_⟩
    · rw [← Int.natCast_mul, ← e]
    · have : 0 < k := Nat.pos_of_ne_zero fun h => by subst h; rw [Nat.mul_zero] at e; omega
      omega
theorem isG_gI {b a : Int} (hb : 0 < b) (ha : 0 < a) : IsG b a (gI b a) := by
  have h := isG_gcd (b := b.toNat) (a := a.toNat) (by omega) (by omega)
  rw [Int.toNat_of_nonneg (by omega), Int.toNat_of_nonneg (by omega)] at h
  exact h
def bk (b B a A p : Int) : Int := ((p * b + B) / a * a + A) / b
theorem bk_move {b B a A p : Int} (hb : b ≠ 0) : bk b B a A p = p + (B + A - (p * b + B) % a) / b := by
  unfold bk
  have e : (p * b + B) / a * a + A = (B + A - (p * b + B) % a) + b * p := by
    have := Int.emod_add_mul_ediv (p * b + B) a
    rw [Int.mul_comm ((p * b + B) / a) a, Int.mul_comm b p]
    omega
  rw [e, Int.add_mul_ediv_left _ _ hb]; omega
theorem ediv_zero_iff {x b : Int} (hb : 0 < b) : x / b = 0 ↔ 0 ≤ x ∧ x < b := by
  constructor
  · intro h
    have h1 := Int.emod_nonneg x (b := b) (by omega)
    have h2 := Int.emod_lt_of_pos x hb
    have h3 := Int.emod_add_mul_ediv x b
    rw [h, Int.mul_zero] at h3
    omega
  · rintro ⟨h1, h2⟩
    exact Int.ediv_eq_zero_of_lt h1 h2
theorem bk_iff {b B a A p : Int} (hb : 0 < b) : bk b B a A p = p ↔ (p * b + B) % a ≤ B + A ∧ B + A < b + (p * b + B) % a := by
  rw [bk_move (by omega)]
  have := ediv_zero_iff (x := B + A - (p * b + B) % a) hb
  constructor
  · intro h
    have := this.mp (by omega)
    omega
  · rintro ⟨h1, h2⟩
    have := this.mpr ⟨by omega, by omega⟩
    omega
section
variable {b B a A g p r : Int}
theorem IsG.mod_mod (G : IsG b a g) : ((p * b + B) % a) % g = B % g := by
  obtain ⟨k, hk⟩ := G.b_
  obtain ⟨l, hl, _⟩ := G.a_
  have e : (p * b + B) % a = B + g * (p * k - l * ((p * b + B) / a)) := by
    rw [Int.emod_def, Int.mul_sub]
    have h1 : p * b = g * (p * k) := by rw [hk, ← Int.mul_assoc, Int.mul_comm p g, Int.mul_assoc]
    have h2 : a * ((p * b + B) / a) = g * (l * ((p * b + B) / a)) := by
      have : ∀ z : Int, a * z = g * (l * z) := fun z => by rw [hl, Int.mul_assoc]
      exact this _
    omega
  rw [e, Int.add_mul_emod_self_left]
theorem IsG.bounds (G : IsG b a g) (hr0 : 0 ≤ r) (hr : r < a) (e : r % g = B % g) : B % g ≤ r ∧ r ≤ a - g + B % g := by
  obtain ⟨l, hl, hl0⟩ := G.a_
  have hg := G.pos
  have h3 := Int.emod_add_mul_ediv r g
  have h4 := Int.ediv_nonneg hr0 (Int.le_of_lt hg)
  have h5 : r / g < l := by rw [Int.ediv_lt_iff_lt_mul hg, Int.mul_comm]; omega
  have h6 : g * (r / g) ≤ g * (l - 1) := Int.mul_le_mul_of_nonneg_left (by omega) (by omega)
  have h7 := Int.mul_nonneg (Int.le_of_lt hg) h4
  rw [Int.mul_sub, Int.mul_one] at h6
  omega
theorem IsG.le_a (G : IsG b a g) : g ≤ a := by
  obtain ⟨l, hl, hl0⟩ := G.a_
  have := Int.mul_le_mul_of_nonneg_left (show 1 ≤ l by omega) (Int.le_of_lt G.pos)
  omega
theorem IsG.div_a (G : IsG b a g) : 0 < a / g ∧ g * (a / g) = a := by
  obtain ⟨l, hl, hl0⟩ := G.a_
  have e : a / g = l := by rw [hl]; exact Int.mul_ediv_cancel_left _ (by have := G.pos; omega)
  rw [e]
  exact ⟨hl0, hl.symm⟩
/-- pages a period apart are alike -/
theorem IsG.per (G : IsG b a g) : ((p % (a / g)) * b + B) % a = (p * b + B) % a := by
  obtain ⟨k, hk⟩ := G.b_
  have h := Int.emod_add_mul_ediv p (a / g)
  have e : p * b + B = ((p % (a / g)) * b + B) + a * (k * (p / (a / g))) := by
    have h2 : p * b = (p % (a / g)) * b + a / g * (p / (a / g)) * b := by rw [← Int.add_mul, h]
    have h3 : a / g * (p / (a / g)) * b = a * (k * (p / (a / g))) := by
      have : ∀ u z : Int, g * u = a → u * z * b = a * (k * z) := fun u z hu => by
        rw [hk, ← hu]
        simp only [Int.mul_assoc, Int.mul_left_comm, Int.mul_comm]
      exact this _ _ G.div_a.2
    omega
  rw [e, Int.add_mul_emod_self_left]
theorem IsG.hit (G : IsG b a g) (hr0 : 0 ≤ r) (hr : r < a) (e : r % g = B % g) : ∃ p, 0 ≤ p ∧ p < a / g ∧ (p * b + B) % a = r := by
  obtain ⟨x, y, hb⟩ := G.bz
  have hd := G.div_a
  obtain ⟨k, hk⟩ : ∃ k, r - B = g * k := by
    refine ⟨r / g - B / g, ?_⟩
    have h1 := Int.emod_add_mul_ediv r g
    have h2 := Int.emod_add_mul_ediv B g
    rw [Int.mul_sub]; omega
  refine ⟨(k * x) % (a / g), Int.emod_nonneg _ (by omega), Int.emod_lt_of_pos _ hd.1, ?_⟩
  rw [G.per]
  have e2 : k * x * b + B = r + a * (- (k * y)) := by
    have h1 : k * (x * b + y * a) = k * g := by rw [hb]
    rw [Int.mul_add, ← Int.mul_assoc, ← Int.mul_assoc] at h1
    rw [Int.mul_neg, Int.mul_comm a, Int.mul_comm k g] at *
    omega
  rw [e2, Int.add_mul_emod_self_left]
  exact Int.emod_eq_of_lt hr0 hr
def Alw (b B a A g : Int) : Prop := a - g + B % g ≤ B + A ∧ B + A ≤ b - 1 + B % g
theorem IsG.always (G : IsG b a g) (hb : 0 < b) (h : Alw b B a A g) (p : Int) : bk b B a A p = p := by
  have ha : 0 < a := by have := G.le_a; have := G.pos; omega
  obtain ⟨h1, h2⟩ := G.bounds (B := B) (Int.emod_nonneg (p * b + B) (b := a) (by omega)) (Int.emod_lt_of_pos _ ha) G.mod_mod
  rw [bk_iff hb]
  obtain ⟨h3, h4⟩ := h
  omega
theorem IsG.always' (G : IsG b a g) (hb : 0 < b) (h : ∀ p, 0 ≤ p → p < a / g → bk b B a A p = p) : Alw b B a A g := by
  have hg := G.pos
  have hga := G.le_a
  have h0 := Int.emod_nonneg B (b := g) (by omega)
  have h1 := Int.emod_lt_of_pos B hg
  obtain ⟨l, hl, hl0⟩ := G.a_
  obtain ⟨p, p0, p1, ep⟩ := G.hit (B := B) (r := B % g) h0 (by omega) (Int.emod_emod_of_dvd _ (Int.dvd_refl g))
  obtain ⟨q, q0, q1, eq⟩ := G.hit (B := B) (r := a - g + B % g) (by omega) (by omega) (by
    have : a - g + B % g = B % g + g * (l - 1) := by rw [Int.mul_sub, Int.mul_one, ← hl]; omega
    rw [this, Int.add_mul_emod_self_left]
    exact Int.emod_emod_of_dvd _ (Int.dvd_refl g))
  have hp := (bk_iff hb).mp (h p p0 p1)
  have hq := (bk_iff hb).mp (h q q0 q1)
  rw [ep] at hp
  rw [eq] at hq
  exact ⟨hq.1, by omega⟩
/-- equal sizes: nothing moves -/
theorem bk_same (hB : 0 ≤ B ∧ B < a) (hA : 0 ≤ A ∧ A < a) : bk a B a A p = p := by
  unfold bk
  have h : ∀ C, 0 ≤ C → C < a → (p * a + C) / a = p := fun C h0 h1 => by
    rw [Int.add_comm, Int.add_mul_ediv_right _ _ (by omega), Int.ediv_eq_zero_of_lt h0 h1]; omega
  rw [h B hB.1 hB.2, h A hA.1 hA.2]
/-- what a page goes back to hangs on its remainder alone -/
theorem IsG.bk_per (G : IsG b a g) (hb : 0 < b) : bk b B a A p = p ↔ bk b B a A (p % (a / g)) = p % (a / g) := by
  rw [bk_iff hb, bk_iff hb, G.per]
end
theorem IsG.le_b {b a g : Int} (G : IsG b a g) (hb : 0 < b) : g ≤ b := by
  obtain ⟨k, hk⟩ := G.b_
  have hg := G.pos
  have : 0 < k := by
    rcases Int.lt_or_le 0 k with h | h
    · exact h
    · have := Int.mul_le_mul_of_nonneg_left h (Int.le_of_lt hg); omega
  have := Int.mul_le_mul_of_nonneg_left (show 1 ≤ k by omega) (Int.le_of_lt hg)
  omega
/-- some page goes back to itself -/
theorem IsG.some_ {b B a A g : Int} (G : IsG b a g) (hb : 0 < b) (hB : 0 ≤ B ∧ B < b) (hA : 0 ≤ A ∧ A < a) : ∃ p, 0 ≤ p ∧ p < a / g ∧ bk b B a A p = p := by
  have hg := G.pos
  have hga := G.le_a
  have hgb := G.le_b hb
  have h0 := Int.emod_nonneg B (b := g) (by omega)
  have h1 := Int.emod_lt_of_pos B hg
  have hBr : B % g ≤ B := by
    have h3 := Int.emod_add_mul_ediv B g
    have h4 := Int.mul_nonneg (Int.le_of_lt hg) (Int.ediv_nonneg hB.1 (Int.le_of_lt hg))
    omega
  obtain ⟨l, hl, hl0⟩ := G.a_
  obtain ⟨k, hk⟩ := G.b_
  have hBk : B ≤ b - g + B % g := by
    have h3 := Int.emod_add_mul_ediv B g
    have h4 : B / g < k := by rw [Int.ediv_lt_iff_lt_mul hg, Int.mul_comm, ← hk]; exact hB.2
    have h6 : g * (B / g) ≤ g * (k - 1) := Int.mul_le_mul_of_nonneg_left (by omega) (by omega)
    rw [Int.mul_sub, Int.mul_one, ← hk] at h6
    omega
  rcases Int.lt_or_le (a - g + B % g) (B + A) with h | h
  · obtain ⟨q, q0, q1, eq⟩ := G.hit (B := B) (r := a - g + B % g) (by omega) (by omega) (by
      have : a - g + B % g = B % g + g * (l - 1) := by rw [Int.mul_sub, Int.mul_one, ← hl]; omega
      rw [this, Int.add_mul_emod_self_left]
      exact Int.emod_emod_of_dvd _ (Int.dvd_refl g))
    refine ⟨q, q0, q1, (bk_iff hb).mpr ?_⟩
    rw [eq]
    omega
  · have h2 := Int.emod_nonneg (B + A - B % g) (b := g) (by omega)
    have h3 := Int.emod_lt_of_pos (B + A - B % g) hg
    have h4 := Int.emod_add_mul_ediv (B + A - B % g) g
    have h5 := Int.ediv_nonneg (show 0 ≤ B + A - B % g by omega) (Int.le_of_lt hg)
    have h6 := Int.mul_nonneg (Int.le_of_lt hg) h5
    obtain ⟨q, q0, q1, eq⟩ := G.hit (B := B) (r := B % g + g * ((B + A - B % g) / g)) (by omega) (by omega) (by
      rw [Int.add_mul_emod_self_left]
      exact Int.emod_emod_of_dvd _ (Int.dvd_refl g))
    refine ⟨q, q0, q1, (bk_iff hb).mpr ?_⟩
    rw [eq]
    omega
/-- the pages that go back to themselves -/
def pgI (b B a A : Int) (n : Int) : List Int := (rgI 0 n.toNat).filter fun x => bk b B a A x == x
theorem mem_pgI {b B a A n x : Int} : x ∈ pgI b B a A n ↔ (0 ≤ x ∧ x < n) ∧ bk b B a A x = x := by
  unfold pgI
  rw [List.mem_filter, mem_rgI, beq_iff_eq]
  constructor
  · rintro ⟨⟨h1, h2⟩, h3⟩
    exact ⟨⟨h1, by omega⟩, h3⟩
  · rintro ⟨⟨h1, h2⟩, h3⟩
    exact ⟨⟨h1, by omega⟩, h3⟩
theorem pgI_len {b B a A n : Int} (h : 0 ≤ n) : (pgI b B a A n).length ≤ n := by
  have := List.length_filter_le (fun x => bk b B a A x == x) (rgI 0 n.toNat)
  rw [rgI_len] at this
  unfold pgI
  omega
theorem pgI_full {b B a A n : Int} (h : 0 ≤ n) : ((pgI b B a A n).length : Int) = n ↔ ∀ x, 0 ≤ x → x < n → bk b B a A x = x := by
  have e : ((pgI b B a A n).length : Int) = n ↔ (pgI b B a A n).length = (rgI 0 n.toNat).length := by rw [rgI_len]; omega
  rw [e]
  unfold pgI
  rw [List.length_filter_eq_length_iff]
  constructor
  · intro h2 x h0 h1
    have := h2 x (mem_rgI.mpr ⟨h0, by omega⟩)
    simpa using this
  · intro h2 x hx
    have := mem_rgI.mp hx
    simpa using h2 x this.1 (by omega)
theorem pgI_cut {b B a A m n : Int} (h : m ≤ n) : (pgI b B a A n).filter (fun x => decide (x < m)) = pgI b B a A m := by
  unfold pgI
  rw [List.filter_filter]
  have e : (rgI 0 n.toNat).filter (fun x => decide (0 ≤ x) && decide (x ≤ m - 1)) = rgI 0 m.toNat := by
    rw [filter_rgI (Int.le_refl 0)]
    congr 1
    omega
  rw [← e, List.filter_filter]
  refine List.filter_congr fun x hx => ?_
  have h0 := (mem_rgI.mp hx).1
  rw [decide_eq_true h0]
  by_cases q : x < m
  · rw [decide_eq_true q, decide_eq_true (show x ≤ m - 1 by omega)]; simp
  · rw [decide_eq_false q, decide_eq_false (show ¬ x ≤ m - 1 by omega)]; simp
/-- all pages of a period, all pages below a size -/
theorem IsG.full {b B a A g : Int} (G : IsG b a g) (hb : 0 < b) : (∀ x, 0 ≤ x → x < a → bk b B a A x = x) ↔ Alw b B a A g := by
  have hd := G.div_a
  have hg := G.pos
  have hl : a / g ≤ a := Int.ediv_le_self _ (by have := G.le_a; omega)
  constructor
  · intro h
    exact G.always' hb fun p h0 h1 => h p h0 (by omega)
  · intro h x _ _
    exact G.always hb h x
/-! ### one detour after another -/
theorem neg_div {n a : Int} (ha : 0 < a) : (-1 - n) / a = -1 - n / a := by
  have h1 := Int.emod_nonneg n (b := a) (by omega)
  have h2 := Int.emod_lt_of_pos n ha
  have h3 := Int.emod_add_mul_ediv n a
  have e : -1 - n = (a - 1 - n % a) + a * (-1 - n / a) := by
    rw [Int.mul_sub, Int.mul_neg, Int.mul_one]; omega
  rw [e, Int.add_mul_ediv_left _ _ (by omega), Int.ediv_eq_zero_of_lt (by omega) (by omega)]; omega
theorem mir_div {w n a l : Int} (ha : 0 < a) (hw : w = a * l) : (w - 1 - n) / a = l - 1 - n / a := by
  have e : w - 1 - n = (-1 - n) + a * l := by omega
  rw [e, Int.add_mul_ediv_left _ _ (by omega), neg_div ha]; omega
/-- the list read from its end -/
theorem bk_mir {b B a A p P O w : Int} (hb : 0 < b) (ha : 0 < a) (hP : w = b * P) (hO : w = a * O) : bk b (b - 1 - B) a (a - 1 - A) (P - 1 - p) = P - 1 - bk b B a A p := by
  unfold bk
  have e1 : (P - 1 - p) * b + (b - 1 - B) = w - 1 - (p * b + B) := by
    rw [Int.sub_mul, Int.sub_mul, Int.one_mul, Int.mul_comm P b, ← hP]; omega
  rw [e1, mir_div ha hO]
  have e2 : (O - 1 - (p * b + B) / a) * a + (a - 1 - A) = w - 1 - ((p * b + B) / a * a + A) := by
    rw [Int.sub_mul, Int.sub_mul, Int.one_mul, Int.mul_comm O a, ← hO]; omega
  rw [e2, mir_div hb hP]
theorem ch_mir {b B a p P O w : Int} (ha : 0 < a) (hP : w = b * P) (hO : w = a * O) : ((P - 1 - p) * b + (b - 1 - B)) / a = O - 1 - (p * b + B) / a := by
  have e1 : (P - 1 - p) * b + (b - 1 - B) = w - 1 - (p * b + B) := by
    rw [Int.sub_mul, Int.sub_mul, Int.one_mul, Int.mul_comm P b, ← hP]; omega
  rw [e1, mir_div ha hO]
def stl (b B a A : Int) : Nat → Int → Int
  | 0, p => p
  | n + 1, p => if bk b B a A p = p then p else stl b B a A n (bk b B a A p)
theorem stl_fix {b B a A p : Int} (h : bk b B a A p = p) : ∀ n, stl b B a A n p = p
  | 0 => rfl
  | n + 1 => by unfold stl; rw [if_pos h]
theorem stl_mir {b B a A P O w : Int} (hb : 0 < b) (ha : 0 < a) (hP : w = b * P) (hO : w = a * O) : ∀ (n : Nat) (p : Int), stl b (b - 1 - B) a (a - 1 - A) n (P - 1 - p) = P - 1 - stl b B a A n p
  | 0, p => rfl
  | n + 1, p => by
    unfold stl
    rw [bk_mir hb ha hP hO, stl_mir hb ha hP hO n]
    by_cases h : bk b B a A p = p
    · rw [if_pos h, if_pos (by rw [h])]
    · rw [if_neg h, if_neg (by omega)]
/-- how far it still is -/
structure Meas (b B a A : Int) (N : Nat) (μ : Int → Nat) : Prop where
  dec : ∀ p, bk b B a A p ≠ p → μ (bk b B a A p) < μ p
  lt : ∀ p, μ p < N
theorem Meas.stable {b B a A : Int} {N : Nat} {μ : Int → Nat} (M : Meas b B a A N μ) : ∀ (n : Nat) (p : Int), μ p ≤ n → stl b B a A (n + 1) p = stl b B a A n p
  | 0, p, h => by
    by_cases e : bk b B a A p = p
    · rw [stl_fix e, stl_fix e]
    · have := M.dec p e; omega
  | n + 1, p, h => by
    by_cases e : bk b B a A p = p
    · rw [stl_fix e, stl_fix e]
    · have := M.dec p e
      have ih := M.stable n (bk b B a A p) (by omega)
      show (if _ then _ else _) = (if _ then _ else _)
      rw [if_neg e, if_neg e, ih]
theorem Meas.ends {b B a A : Int} {N : Nat} {μ : Int → Nat} (M : Meas b B a A N μ) : ∀ (n : Nat) (p : Int), μ p ≤ n → bk b B a A (stl b B a A n p) = stl b B a A n p
  | 0, p, h => by
    by_cases e : bk b B a A p = p
    · exact e
    · have := M.dec p e; omega
  | n + 1, p, h => by
    by_cases e : bk b B a A p = p
    · rw [stl_fix e, e]
    · have := M.dec p e
      have ih := M.ends n (bk b B a A p) (by omega)
      have e2 : stl b B a A (n + 1) p = stl b B a A n (bk b B a A p) := if_neg e
      rw [e2, ih]
/-- one page at a time, in one direction -/
theorem bk_dir {b B a A : Int} (ha : 0 < a) (hba : a ≤ b) (hB : 0 ≤ B ∧ B < b) (hA : 0 ≤ A ∧ A < a) :
    (B + A < b ∧ ∀ p, bk b B a A p = p ∨ bk b B a A p = p - 1) ∨ (b ≤ B + A ∧ ∀ p, bk b B a A p = p ∨ bk b B a A p = p + 1) := by
  have hm : ∀ p, bk b B a A p = p + (B + A - (p * b + B) % a) / b ∧ 0 ≤ (p * b + B) % a ∧ (p * b + B) % a < a := fun p =>
    ⟨bk_move (by omega), Int.emod_nonneg _ (by omega), Int.emod_lt_of_pos _ ha⟩
  have dn : ∀ x : Int, x < 0 → -b ≤ x → x / b = -1 := fun x h1 h2 => by
    have e : x = (x + b) + b * (-1) := by omega
    rw [e, Int.add_mul_ediv_left _ _ (by omega), Int.ediv_eq_zero_of_lt (by omega) (by omega)]; omega
  have up : ∀ x : Int, b ≤ x → x < 2 * b → x / b = 1 := fun x h1 h2 => by
    have e : x = (x - b) + b * 1 := by omega
    rw [e, Int.add_mul_ediv_left _ _ (by omega), Int.ediv_eq_zero_of_lt (by omega) (by omega)]; omega
  rcases Int.lt_or_le (B + A) b with h | h
  · refine .inl ⟨h, fun p => ?_⟩
    obtain ⟨h1, h2, h3⟩ := hm p
    rcases Int.lt_or_le (B + A - (p * b + B) % a) 0 with h4 | h4
    · rw [h1, dn _ h4 (by omega)]; exact .inr (by omega)
    · rw [h1, Int.ediv_eq_zero_of_lt h4 (by omega)]; exact .inl (by omega)
  · refine .inr ⟨h, fun p => ?_⟩
    obtain ⟨h1, h2, h3⟩ := hm p
    rcases Int.lt_or_le (B + A - (p * b + B) % a) b with h4 | h4
    · rw [h1, Int.ediv_eq_zero_of_lt (by omega) h4]; exact .inl (by omega)
    · rw [h1, up _ h4 (by omega)]; exact .inr (by omega)
theorem mod_pred {x m : Int} (hm : 0 < m) (h : x % m ≠ 0) : (x - 1) % m = x % m - 1 := by
  have h1 := Int.emod_nonneg x (b := m) (by omega)
  have h2 := Int.emod_lt_of_pos x hm
  have h3 := Int.emod_add_mul_ediv x m
  have e : x - 1 = (x % m - 1) + m * (x / m) := by omega
  rw [e, Int.add_mul_emod_self_left]
  exact Int.emod_eq_of_lt (by omega) (by omega)
theorem mod_zero_same {x y m : Int} (h : (x - y) % m = 0) : x % m = y % m := Int.emod_eq_emod_iff_emod_sub_eq_zero.mpr h
theorem IsG.meas {b B a A g : Int} (G : IsG b a g) (hba : a ≤ b) (hB : 0 ≤ B ∧ B < b) (hA : 0 ≤ A ∧ A < a) : ∃ μ, Meas b B a A (a / g).toNat μ := by
  have hd := G.div_a
  have hb : 0 < b := by have := hB; omega
  obtain ⟨q, q0, q1, hq⟩ := G.some_ hb hB hA
  have same : ∀ p, p % (a / g) = q % (a / g) → bk b B a A p = p := fun p h => by
    rw [G.bk_per hb, h, ← G.bk_per hb]; exact hq
  rcases bk_dir (by omega) hba hB hA with ⟨_, h⟩ | ⟨_, h⟩
  · refine ⟨fun p => ((p - q) % (a / g)).toNat, fun p hp => ?_, fun p => ?_⟩
    · have h1 := (h p).resolve_left hp
      have h2 : (p - q) % (a / g) ≠ 0 := fun e => hp (same p (mod_zero_same e))
      have h3 := Int.emod_nonneg (p - q) (b := a / g) (by omega)
      have h4 := mod_pred hd.1 h2
      rw [h1, show p - 1 - q = p - q - 1 from by omega, h4]
      omega
    · have h3 := Int.emod_nonneg (p - q) (b := a / g) (by omega)
      have h4 := Int.emod_lt_of_pos (p - q) hd.1
      omega
  · refine ⟨fun p => ((q - p) % (a / g)).toNat, fun p hp => ?_, fun p => ?_⟩
    · have h1 := (h p).resolve_left hp
      have h2 : (q - p) % (a / g) ≠ 0 := fun e => hp (same p (mod_zero_same e).symm)
      have h3 := Int.emod_nonneg (q - p) (b := a / g) (by omega)
      have h4 := mod_pred hd.1 h2
      rw [h1, show q - (p + 1) = q - p - 1 from by omega, h4]
      omega
    · have h3 := Int.emod_nonneg (q - p) (b := a / g) (by omega)
      have h4 := Int.emod_lt_of_pos (q - p) hd.1
      omega
theorem stl_succ {b B a A : Int} : ∀ (n : Nat) (p : Int), stl b B a A (n + 1) p = bk b B a A (stl b B a A n p)
  | 0, p => by
    by_cases e : bk b B a A p = p
    · rw [stl_fix e, stl_fix e, e]
    · exact if_neg e
  | n + 1, p => by
    by_cases e : bk b B a A p = p
    · rw [stl_fix e, stl_fix e, e]
    · have e1 : stl b B a A (n + 1 + 1) p = stl b B a A (n + 1) (bk b B a A p) := if_neg e
      have e2 : stl b B a A (n + 1) p = stl b B a A n (bk b B a A p) := if_neg e
      rw [e1, e2, stl_succ n]
theorem stl_stay {b B a A p : Int} {c : Nat} (h : bk b B a A (stl b B a A c p) = stl b B a A c p) : ∀ k, stl b B a A (c + k) p = stl b B a A c p
  | 0 => rfl
  | k + 1 => by rw [← Nat.add_assoc, stl_succ, stl_stay h k, h]
/-- the way to the page that stays -/
structure Way (b B a A p : Int) (c : Nat) (δ : Int) : Prop where
  fix : bk b B a A (stl b B a A c p) = stl b B a A c p
  go : ∀ i, i < c → bk b B a A (stl b B a A i p) ≠ stl b B a A i p
  step : ∀ i, i < c → stl b B a A (i + 1) p = stl b B a A i p + δ
  one : δ = 1 ∨ δ = -1
theorem Meas.way {b B a A : Int} {N : Nat} {μ : Int → Nat} (M : Meas b B a A N μ) : ∀ (n : Nat) (p : Int), μ p ≤ n → ∃ c, c ≤ μ p ∧ bk b B a A (stl b B a A c p) = stl b B a A c p ∧ ∀ i, i < c → bk b B a A (stl b B a A i p) ≠ stl b B a A i p
  | 0, p, h => by
    by_cases e : bk b B a A p = p
    · exact ⟨0, Nat.zero_le _, e, fun i hi => absurd hi (Nat.not_lt_zero _)⟩
    · have := M.dec p e; omega
  | n + 1, p, h => by
    by_cases e : bk b B a A p = p
    · exact ⟨0, Nat.zero_le _, e, fun i hi => absurd hi (Nat.not_lt_zero _)⟩
    · have h1 := M.dec p e
      obtain ⟨c, c1, c2, c3⟩ := M.way n (bk b B a A p) (by omega)
      have es : ∀ i, stl b B a A (i + 1) p = stl b B a A i (bk b B a A p) := fun i => if_neg e
      refine ⟨c + 1, by omega, by rw [es]; exact c2, fun i hi => ?_⟩
      cases i with
      | zero => exact e
      | succ i => rw [es]; exact c3 i (by omega)
theorem IsG.way {b B a A g : Int} (G : IsG b a g) (hba : a ≤ b) (hB : 0 ≤ B ∧ B < b) (hA : 0 ≤ A ∧ A < a) (p : Int) : ∃ c δ, Way b B a A p c δ ∧ (c : Int) < a / g := by
  obtain ⟨μ, M⟩ := G.meas hba hB hA
  obtain ⟨c, c1, c2, c3⟩ := M.way (μ p) p (Nat.le_refl _)
  have hc : (c : Int) < a / g := by have := M.lt p; omega
  rcases bk_dir (by omega) hba hB hA with ⟨_, h⟩ | ⟨_, h⟩
  · exact ⟨c, -1, ⟨c2, c3, fun i hi => by rw [stl_succ]; exact (h _).resolve_left (c3 i hi), .inr rfl⟩, hc⟩
  · exact ⟨c, 1, ⟨c2, c3, fun i hi => by rw [stl_succ]; exact (h _).resolve_left (c3 i hi), .inl rfl⟩, hc⟩
/-- the pages of the way, as far as the i-th -/
def wayP (b B a A p : Int) (i : Nat) : List Int := (List.range (i + 1)).map fun j => stl b B a A j p
theorem wayP_succ {b B a A p : Int} (i : Nat) : wayP b B a A p (i + 1) = wayP b B a A p i ++ [stl b B a A (i + 1) p] := by
  unfold wayP
  rw [List.range_succ, List.map_append]; rfl
theorem wayP_len {b B a A p : Int} (i : Nat) : (wayP b B a A p i).length = i + 1 := by
  unfold wayP
  rw [List.length_map, List.length_range]
theorem wayP_at {b B a A p : Int} {i j : Nat} (h : j ≤ i) : (wayP b B a A p i)[j]? = some (stl b B a A j p) := by
  unfold wayP
  rw [List.getElem?_map, List.getElem?_range (by omega)]; rfl
theorem wayP_last {b B a A p : Int} (i : Nat) : ∃ xs, wayP b B a A p i = xs ++ [stl b B a A i p] ∧ ∀ x ∈ xs, ∃ j, j < i ∧ x = stl b B a A j p := by
  refine ⟨(List.range i).map fun j => stl b B a A j p, by unfold wayP; rw [List.range_succ, List.map_append]; rfl, fun x hx => ?_⟩
  obtain ⟨j, hj, rfl⟩ := List.mem_map.mp hx
  exact ⟨j, List.mem_range.mp hj, rfl⟩
theorem way_steps {b B a A p δ : Int} {c : Nat} (W : Way b B a A p c δ) : ((wayP b B a A p c).zip (wayP b B a A p c).tail).map (fun q => q.2 - q.1) = List.replicate c δ := by
  apply List.ext_getElem?
  intro i
  rw [List.getElem?_map, List.getElem?_replicate]
  by_cases h : i < c
  · rw [if_pos h]
    have h1 : ((wayP b B a A p c).zip (wayP b B a A p c).tail)[i]? = some (stl b B a A i p, stl b B a A (i + 1) p) := by
      rw [List.getElem?_zip_eq_some]
      exact ⟨wayP_at (by omega), by rw [List.getElem?_tail]; exact wayP_at (by omega)⟩
    rw [h1, Option.map_some, W.step i h]
    congr 1
    show stl b B a A i p + δ - stl b B a A i p = δ
    omega
  · rw [if_neg h]
    have : ((wayP b B a A p c).zip (wayP b B a A p c).tail)[i]? = none := by
      rw [List.getElem?_eq_none_iff, List.length_zip, List.length_tail, wayP_len]
      omega
    rw [this]; rfl
/-! ### counting -/
def oneIf (c : Bool) : Int := if c = true then 1 else 0
def cn (f : Int → Bool) (lo : Int) (n : Nat) : Int := ((rgI lo n).map fun p => oneIf (f p)).sum
theorem rgI_add (lo : Int) (m : Nat) : ∀ n : Nat, rgI lo (m + n) = rgI lo m ++ rgI (lo + m) n
  | 0 => by rw [Nat.add_zero, show rgI (lo + m) 0 = [] from rfl, List.append_nil]
  | n + 1 => by rw [← Nat.add_assoc, rgI_succ, rgI_add lo m n, rgI_succ, List.append_assoc, Int.natCast_add, Int.add_assoc]
theorem cn_zero (f : Int → Bool) (lo : Int) : cn f lo 0 = 0 := rfl
theorem cn_add (f : Int → Bool) (lo : Int) (m n : Nat) : cn f lo (m + n) = cn f lo m + cn f (lo + m) n := by
  unfold cn
  rw [rgI_add, List.map_append, List.sum_append]
theorem cn_succ (f : Int → Bool) (lo : Int) (n : Nat) : cn f lo (n + 1) = cn f lo n + oneIf (f (lo + n)) := by
  rw [cn_add]
  congr 1
  show (oneIf (f (lo + n + (0 : Nat))) + 0 : Int) = _
  rw [Int.add_zero]
  congr 2
  omega
theorem cn_congr {f g : Int → Bool} {lo lo' : Int} : ∀ {n : Nat}, (∀ i : Nat, i < n → f (lo + i) = g (lo' + i)) → cn f lo n = cn g lo' n
  | 0, _ => rfl
  | n + 1, h => by rw [cn_succ, cn_succ, cn_congr (fun i hi => h i (by omega)), h n (by omega)]
theorem cn_none {f : Int → Bool} {lo : Int} : ∀ {n : Nat}, (∀ i : Nat, i < n → f (lo + i) = false) → cn f lo n = 0
  | 0, _ => rfl
  | n + 1, h => by rw [cn_succ, cn_none (fun i hi => h i (by omega)), h n (by omega)]; rfl
theorem cn_le {f : Int → Bool} {lo : Int} : ∀ n : Nat, 0 ≤ cn f lo n ∧ cn f lo n ≤ n
  | 0 => ⟨Int.le_refl 0, Int.le_refl 0⟩
  | n + 1 => by
    have ih := cn_le (f := f) (lo := lo) n
    rw [cn_succ]
    have : 0 ≤ oneIf (f (lo + n)) ∧ oneIf (f (lo + n)) ≤ 1 := by unfold oneIf; split <;> omega
    omega
theorem cn_len {f : Int → Bool} {lo : Int} : ∀ n : Nat, (((rgI lo n).filter f).length : Int) = cn f lo n
  | 0 => rfl
  | n + 1 => by
    rw [rgI_succ, List.filter_append, List.length_append, Int.natCast_add, cn_len n, cn_succ]
    congr 1
    rw [List.filter_cons]
    cases f (lo + n) <;> rfl
theorem cn_per {f : Int → Bool} {t : Nat} (hf : ∀ p : Nat, f ((p : Int) + t) = f p) : ∀ k : Nat, cn f 0 (t * k) = k * cn f 0 t
  | 0 => by rw [Nat.mul_zero, cn_zero, Int.natCast_zero, Int.zero_mul]
  | k + 1 => by
    have hs : ∀ (j p : Nat), f ((p : Int) + (t * j : Nat)) = f p := fun j => by
      induction j with
      | zero => intro p; rw [Nat.mul_zero, Int.natCast_zero, Int.add_zero]
      | succ j ih =>
        intro p
        have := ih (p + t)
        rw [Nat.mul_succ]
        have h2 := hf p
        rw [show ((p + t : Nat) : Int) = (p : Int) + t from Int.natCast_add _ _] at this
        rw [h2] at this
        rw [← this]
        congr 1
        rw [Int.natCast_add]; omega
    rw [Nat.mul_succ, cn_add, cn_per hf k, Int.natCast_add, Int.add_mul, Int.natCast_one, Int.one_mul]
    congr 1
    refine cn_congr fun i hi => ?_
    rw [Int.zero_add, Int.zero_add, ← hs k i]
    congr 1
    omega
theorem cn_div {f : Int → Bool} {t : Nat} (ht : 0 < t) (hf : ∀ p : Nat, f ((p : Int) + t) = f p) (w : Nat) : cn f 0 w = ((w / t : Nat) : Int) * cn f 0 t + cn f 0 (w % t) := by
  have e : w = t * (w / t) + w % t := (Nat.div_add_mod w t).symm
  have hs : ∀ (j p : Nat), f ((p : Int) + (t * j : Nat)) = f p := fun j => by
    induction j with
    | zero => intro p; rw [Nat.mul_zero, Int.natCast_zero, Int.add_zero]
    | succ j ih =>
      intro p
      have := ih (p + t)
      rw [Nat.mul_succ]
      have h2 := hf p
      rw [show ((p + t : Nat) : Int) = (p : Int) + t from Int.natCast_add _ _] at this
      rw [h2] at this
      rw [← this]
      congr 1
      rw [Int.natCast_add]; omega
  have h1 : cn f 0 w = cn f 0 (t * (w / t) + w % t) := by rw [← e]
  rw [h1, cn_add, cn_per hf]
  congr 1
  refine cn_congr fun i hi => ?_
  rw [Int.zero_add, Int.zero_add, ← hs (w / t) i]
  congr 1
  omega
theorem rgI_take {lo : Int} {n m : Nat} (h : m ≤ n) : (rgI lo n).take m = rgI lo m := by
  obtain ⟨k, rfl⟩ : ∃ k, n = m + k := ⟨n - m, by omega⟩
  rw [rgI_add, List.take_append_of_le_length (by rw [rgI_len]; omega), List.take_of_length_le (by rw [rgI_len]; omega)]
/-! ### lists that end -/
def wi (b B a p T : Int) : Int := (if T - 1 < b * p + B then T - 1 else b * p + B) / a
def dw (b B a A T p : Int) : Int := wi a A b (wi b B a p T) T
/-- far from the end -/
theorem dw_far {b B a A T p : Int} (h1 : p * b + B ≤ T - 1) (h2 : (p * b + B) / a * a + A ≤ T - 1) : dw b B a A T p = bk b B a A p := by
  unfold dw wi bk
  rw [Int.mul_comm b p, if_neg (show ¬ T - 1 < p * b + B by omega), Int.mul_comm a, if_neg (show ¬ T - 1 < (p * b + B) / a * a + A by omega)]
theorem div_le {x a : Int} (ha : 0 < a) : x / a * a ≤ x := by
  have h1 := Int.emod_nonneg x (b := a) (by omega)
  have h3 := Int.emod_add_mul_ediv x a
  rw [Int.mul_comm] at h3; omega
/-- a longer list -/
theorem wi_shift {b B a p T n m w : Int} (ha : 0 < a) (hn : w = b * n) (hm : w = a * m) : wi b B a (p + n) (T + w) = wi b B a p T + m := by
  unfold wi
  have e : b * (p + n) = b * p + w := by rw [Int.mul_add, ← hn]
  rw [e]
  by_cases h : T - 1 < b * p + B
  · rw [if_pos h, if_pos (by omega), show T + w - 1 = (T - 1) + a * m from by omega, Int.add_mul_ediv_left _ _ (by omega)]
  · rw [if_neg h, if_neg (by omega), show b * p + w + B = (b * p + B) + a * m from by omega, Int.add_mul_ediv_left _ _ (by omega)]
theorem dw_shift {b B a A p T n m w : Int} (hb : 0 < b) (ha : 0 < a) (hn : w = b * n) (hm : w = a * m) : dw b B a A (T + w) (p + n) = dw b B a A T p + n := by
  unfold dw
  rw [wi_shift ha hn hm, wi_shift hb hm hn]
def fB (b B a A p : Int) : Bool := !(bk b B a A p == p)
def fW (b B a A T p : Int) : Bool := !(dw b B a A T p == p)
theorem fB_iff {b B a A p : Int} (hb : 0 < b) : fB b B a A p = !(decide ((p * b + B) % a ≤ B + A) && decide (B + A < b + (p * b + B) % a)) := by
  unfold fB
  congr 1
  have h := bk_iff (B := B) (a := a) (A := A) (p := p) hb
  by_cases e : bk b B a A p = p
  · have := h.mp e
    rw [decide_eq_true this.1, decide_eq_true this.2, e, beq_self_eq_true]; rfl
  · rw [show (bk b B a A p == p) = false from by simpa using e]
    by_cases h1 : (p * b + B) % a ≤ B + A
    · by_cases h2 : B + A < b + (p * b + B) % a
      · exact absurd (h.mpr ⟨h1, h2⟩) e
      · rw [decide_eq_false h2, Bool.and_false]
    · rw [decide_eq_false h1]; rfl
theorem fB_per {b B a A n k p : Int} (hb : 0 < b) (hn : b * n = a * k) : fB b B a A (p + n) = fB b B a A p := by
  rw [fB_iff hb, fB_iff hb]
  have e : (p + n) * b + B = p * b + B + a * k := by rw [Int.add_mul, ← hn, Int.mul_comm b n]; omega
  rw [e, Int.add_mul_emod_self_left]
/-- what lost_pages reckons -/
def lpW (b a T : Int) : Int := if T / b - 2 * a / b - 2 > 0 then T / b - 2 * a / b - 2 else 0
def lpP (b T : Int) : Int := (T + b - 1) / b
def LPv (b B a A T : Int) : Int := lpW b a T / a * cn (fB b B a A) 0 a.toNat + cn (fB b B a A) 0 (lpW b a T % a).toNat + cn (fW b B a A T) (lpW b a T) (lpP b T - lpW b a T).toNat
section
variable {b B a A T : Int}
theorem lpP_b (hb : 0 < b) (hT : 1 ≤ T) : 1 ≤ lpP b T ∧ b * (lpP b T - 1) < T ∧ T ≤ b * lpP b T ∧ lpP b T ≤ T := by
  unfold lpP
  have h1 := Int.emod_nonneg (T + b - 1) (b := b) (by omega)
  have h2 := Int.emod_lt_of_pos (T + b - 1) hb
  have h3 := Int.emod_add_mul_ediv (T + b - 1) b
  have h4 : 1 ≤ (T + b - 1) / b := by rw [Int.le_ediv_iff_mul_le hb]; omega
  rw [Int.mul_sub, Int.mul_one]
  refine ⟨h4, by omega, by omega, ?_⟩
  have h5 := Int.mul_le_mul_of_nonneg_right (show 1 ≤ b by omega) (show 0 ≤ (T + b - 1) / b - 1 by omega)
  rw [Int.one_mul, Int.mul_sub, Int.mul_one] at h5
  omega
theorem lpW_le (hb : 0 < b) (ha : 0 < a) (hT : 1 ≤ T) : 0 ≤ lpW b a T ∧ lpW b a T ≤ lpP b T := by
  have h := lpP_b hb hT
  unfold lpW
  have h1 := div_le (x := T) hb
  have h5 : 0 ≤ 2 * a / b := Int.ediv_nonneg (by omega) (by omega)
  have h6 : T / b ≤ lpP b T := by
    rcases Int.lt_or_le (lpP b T) (T / b) with h2 | h2
    · have h3 := Int.mul_le_mul_of_nonneg_left (show lpP b T + 1 ≤ T / b by omega) (show 0 ≤ b by omega)
      rw [Int.mul_add, Int.mul_one, Int.mul_comm b (T / b)] at h3
      omega
    · exact h2
  split <;> omega
theorem lp_near {p : Int} (hb : 0 < b) (ha : 0 < a) (hB : 0 ≤ B ∧ B < b) (hA : 0 ≤ A ∧ A < a) (hp0 : 0 ≤ p) (hp : p < lpW b a T) : dw b B a A T p = bk b B a A p := by
  unfold lpW at hp
  split at hp
  · have h1 := div_le (x := T) hb
    have h2 := Int.emod_lt_of_pos (2 * a) hb
    have h3 := Int.emod_add_mul_ediv (2 * a) b
    have h4 := Int.mul_le_mul_of_nonneg_right (show p + 1 ≤ T / b - 2 * a / b - 2 by omega) (show 0 ≤ b by omega)
    rw [Int.add_mul, Int.one_mul, Int.sub_mul, Int.sub_mul, Int.mul_comm (2 * a / b) b] at h4
    have h5 := div_le (x := p * b + B) ha
    exact dw_far (by omega) (by omega)
  · omega
theorem LPv_cn (hb : 0 < b) (ha : 0 < a) (hB : 0 ≤ B ∧ B < b) (hA : 0 ≤ A ∧ A < a) (hT : 1 ≤ T) : LPv b B a A T = cn (fW b B a A T) 0 (lpP b T).toNat := by
  obtain ⟨h1, h2⟩ := lpW_le hb ha hT
  have e : (lpP b T).toNat = (lpW b a T).toNat + (lpP b T - lpW b a T).toNat := by omega
  rw [e, cn_add]
  unfold LPv
  have h3 : cn (fW b B a A T) 0 (lpW b a T).toNat = cn (fB b B a A) 0 (lpW b a T).toNat := cn_congr fun i hi => by
    unfold fW fB
    rw [lp_near hb ha hB hA (by omega) (by omega)]
  have h4 := cn_div (f := fB b B a A) (t := a.toNat) (by omega) (fun p => by
    rw [show ((a.toNat : Nat) : Int) = a from by omega]
    exact fB_per (k := b) hb (Int.mul_comm b a)) (lpW b a T).toNat
  rw [h3, h4]
  have h5 : (((lpW b a T).toNat / a.toNat : Nat) : Int) = lpW b a T / a := by
    rw [Int.natCast_ediv, Int.toNat_of_nonneg h1, Int.toNat_of_nonneg (by omega)]
  have h6 : (lpW b a T).toNat % a.toNat = (lpW b a T % a).toNat := (Int.toNat_emod h1 (by omega)).symm
  rw [h5, h6, show (0 : Int) + ((lpW b a T).toNat : Nat) = lpW b a T from by omega]
/-- so many periods more -/
theorem LPv_more {n m w t : Int} (hb : 0 < b) (ha : 0 < a) (hB : 0 ≤ B ∧ B < b) (hA : 0 ≤ A ∧ A < a) (hn0 : 0 < n) (ht : 0 ≤ t) (hn : w = b * n) (hm : w = a * m) (hT : 1 ≤ T) (hTa : a ≤ T) :
    LPv b B a A (T + t * w) - LPv b B a A T = t * cn (fB b B a A) 0 n.toNat := by
  have hw0 : 0 ≤ w := by rw [hn]; exact Int.mul_nonneg (by omega) (by omega)
  have htw : 0 ≤ t * w := Int.mul_nonneg ht hw0
  have etn : t * w = b * (t * n) := by rw [hn]; rw [Int.mul_left_comm]
  have etm : t * w = a * (t * m) := by rw [hm]; rw [Int.mul_left_comm]
  rw [LPv_cn hb ha hB hA hT, LPv_cn hb ha hB hA (by omega)]
  have hP := lpP_b hb hT
  have htn : 0 ≤ t * n := Int.mul_nonneg ht (by omega)
  have eP : lpP b (T + t * w) = lpP b T + t * n := by
    unfold lpP
    rw [etn, show T + b * (t * n) + b - 1 = (T + b - 1) + b * (t * n) from by omega, Int.add_mul_ediv_left _ _ (by omega)]
  rw [eP, show (lpP b T + t * n).toNat = (t * n).toNat + (lpP b T).toNat from by omega, cn_add]
  have h1 : cn (fW b B a A (T + t * w)) (0 + ((t * n).toNat : Nat)) (lpP b T).toNat = cn (fW b B a A T) 0 (lpP b T).toNat := cn_congr fun i hi => by
    rw [show 0 + ((t * n).toNat : Int) + i = (0 + (i : Int)) + t * n from by omega]
    unfold fW
    rw [dw_shift hb ha etn etm]
    congr 1
    generalize dw b B a A T (0 + (i : Int)) = x
    generalize 0 + (i : Int) = y
    by_cases e : x = y
    · rw [e, beq_self_eq_true, beq_self_eq_true]
    · rw [show (x == y) = false from by simpa using e, show (x + t * n == y + t * n) = false from by simp; omega]
  have h2 : cn (fW b B a A (T + t * w)) 0 (t * n).toNat = cn (fB b B a A) 0 (t * n).toNat := cn_congr fun i hi => by
    unfold fW fB
    rw [Int.zero_add]
    have h3 : ((i : Int) + 1) * b ≤ t * w := by
      rw [etn, Int.mul_comm b]
      exact Int.mul_le_mul_of_nonneg_right (by omega) (by omega)
    rw [Int.add_mul, Int.one_mul] at h3
    have h5 := div_le (x := (i : Int) * b + B) ha
    rw [dw_far (by omega) (by omega)]
  have h3 := cn_per (f := fB b B a A) (t := n.toNat) (fun p => by
    rw [show ((n.toNat : Nat) : Int) = n from by omega]
    exact fB_per (k := m) hb (by rw [← hn, hm])) t.toNat
  have h4 : (t * n).toNat = n.toNat * t.toNat := by
    rw [Int.mul_comm, Int.toNat_mul (by omega) ht]
  rw [h1, h2, h4, h3, Int.toNat_of_nonneg ht]
  omega
/-- of pages that would return, two at most are lost -/
theorem LPv_two (hb : 0 < b) (ha : 0 < a) (hba : a < b) (hB : 0 ≤ B ∧ B < b) (hA : 0 ≤ A ∧ A < a) (hT : 1 ≤ T) (h : ∀ p, bk b B a A p = p) : LPv b B a A T ≤ 2 := by
  rw [LPv_cn hb ha hB hA hT]
  obtain ⟨h1, h2, h3, _⟩ := lpP_b hb hT
  rcases Int.lt_or_le (lpP b T) 3 with h4 | h4
  · have := (cn_le (f := fW b B a A T) (lo := 0) (lpP b T).toNat).2
    omega
  · rw [show (lpP b T).toNat = (lpP b T - 2).toNat + 2 from by omega, cn_add]
    have h5 : cn (fW b B a A T) 0 (lpP b T - 2).toNat = 0 := cn_none fun i hi => by
      unfold fW
      rw [Int.zero_add]
      have h6 := Int.mul_le_mul_of_nonneg_left (show (i : Int) + 2 ≤ lpP b T - 1 by omega) (show 0 ≤ b by omega)
      rw [Int.mul_add, Int.mul_comm b (i : Int)] at h6
      have h7 := div_le (x := (i : Int) * b + B) ha
      rw [dw_far (by omega) (by omega), h, beq_self_eq_true]; rfl
    have h8 := (cn_le (f := fW b B a A T) (lo := 0 + ((lpP b T - 2).toNat : Nat)) 2).2
    omega
theorem cn_pg {n : Int} (h : 0 ≤ n) : cn (fB b B a A) 0 n.toNat = n - (pgI b B a A n).length := by
  have e : ∀ xs : List Int, ((xs.filter fun x => !(bk b B a A x == x)).length : Int) = xs.length - (xs.filter fun x => bk b B a A x == x).length := fun xs => by
    induction xs with
    | nil => rfl
    | cons x xs ih =>
      rw [List.filter_cons, List.filter_cons]
      cases bk b B a A x == x
      · simp only [Bool.not_false, if_true, List.length_cons, Bool.false_eq_true, if_false]; omega
      · simp only [Bool.not_true, if_true, List.length_cons, Bool.false_eq_true, if_false]; omega
  rw [← cn_len, show (rgI 0 n.toNat).filter (fB b B a A) = (rgI 0 n.toNat).filter fun x => !(bk b B a A x == x) from rfl, e, rgI_len]
  unfold pgI
  omega
end
theorem sub_mod_div {x a : Int} (h : 0 < a) : (x - x % a) / a = x / a := by
  rw [show x - x % a = a * (x / a) from by have := Int.emod_add_mul_ediv x a; omega, Int.mul_ediv_cancel_left _ (by omega)]
/-- the pair in the other order -/
theorem Meas.rev {b B a A : Int} {N : Nat} {μ : Int → Nat} (M : Meas a A b B N μ) : ∃ μ', Meas b B a A (N + 1) μ' := by
  refine ⟨fun p => if bk b B a A p = p then 0 else μ ((p * b + B) / a) + 1, fun p hp => ?_, fun p => ?_⟩
  · have hp' : bk b B a A p ≠ p := hp
    have e1 : ((bk b B a A p) * b + B) / a = bk a A b B ((p * b + B) / a) := rfl
    show (if bk b B a A (bk b B a A p) = bk b B a A p then 0 else μ (((bk b B a A p) * b + B) / a) + 1) < (if bk b B a A p = p then 0 else μ ((p * b + B) / a) + 1)
    rw [if_neg hp', e1]
    by_cases h : bk b B a A (bk b B a A p) = bk b B a A p
    · rw [if_pos h]; omega
    · rw [if_neg h]
      have : μ (bk a A b B ((p * b + B) / a)) < μ ((p * b + B) / a) := M.dec _ fun e => h (by
        show ((((bk b B a A p) * b + B) / a) * a + A) / b = bk b B a A p
        rw [e1, e]; rfl)
      omega
  · show (if bk b B a A p = p then 0 else μ ((p * b + B) / a) + 1) < N + 1
    have := M.lt ((p * b + B) / a)
    split <;> omega
/-- each further detour, seen from the other kind -/
theorem stl_other {b B a A : Int} : ∀ (n : Nat) (p : Int), stl b B a A (n + 1) p = (stl a A b B n ((p * b + B) / a) * a + A) / b
  | 0, p => by rw [stl_succ]; rfl
  | n + 1, p => by
    rw [stl_succ, stl_other n p, stl_succ n ((p * b + B) / a)]; rfl
end DL

namespace DL
open PySem
/-! ## dicts, pairs sorted, two fors: plain -/
section
variable {α : Type} {s : Sto} {n : Nat} {ρ : En} {d x : D} {Q : D → Sto → Prop} {QU : Unit → Sto → Prop} {QF : Fl → Sto → Prop} {QL : List D → Sto → Prop} {fo fi fv f : En → M D} {kvs : List (L2.Key × D)} {k : L2.Key}
def kD3 (ρ : En) (QF : Fl → Sto → Prop) (_ : Unit) (s : Sto) : Prop := QF (.nx ρ) s
def kD2 (d x : D) (ρ : En) (QF : Fl → Sto → Prop) (i : D) (s : Sto) : Prop := runs (dputD x i d) s (kD3 ρ QF)
def kD1 (fi : En → M D) (d : D) (ρ : En) (QF : Fl → Sto → Prop) (x : D) (s : Sto) : Prop := runs (fi ρ) s (kD2 d x ρ QF)
def kD0 (fo fi : En → M D) (ρ : En) (QF : Fl → Sto → Prop) (d : D) (s : Sto) : Prop := runs (fo ρ) s (kD1 fi d ρ QF)
theorem r_edic : runs (eDic ρ) s Q = Q (.loc s.length) (s ++ [some (.dic [])]) := propext ⟨fun ⟨_, _, e, q⟩ => by cases e; exact q, fun q => ⟨_, _, rfl, q⟩⟩
theorem r_dput : runs (sDput fo fi fv ρ) s QF = runs (fv ρ) s (kD0 fo fi ρ QF) := by
  show runs (bnd _ _) s QF = _
  rw [r_bnd]
  congr 1
  funext d s1
  show runs (bnd _ _) _ _ = _
  rw [r_bnd]
  congr 1
  funext x s2
  show runs (bnd _ _) _ _ = _
  rw [r_bnd]
  congr 1
  funext i s3
  show runs (bnd _ _) _ _ = _
  rw [r_bnd]
  congr 1
  funext u s4
  exact r_ret
theorem r_kd0 : kD0 fo fi ρ QF d s = runs (fo ρ) s (kD1 fi d ρ QF) := rfl
theorem r_kd1 : kD1 fi d ρ QF x s = runs (fi ρ) s (kD2 d x ρ QF) := rfl
theorem r_kd2 {i : D} : kD2 d x ρ QF i s = runs (dputD x i d) s (kD3 ρ QF) := rfl
theorem r_kd3 {u : Unit} : kD3 ρ QF u s = QF (.nx ρ) s := rfl
theorem dicAt_loc (h : s[n]? = some (some (.dic kvs))) : dicAt s (.loc n) = some kvs := by
  show (match s[n]? with | some (some (.dic kvs)) => some kvs | _ => none) = _
  rw [h]
theorem r_dputD {i : Int} (h : s[n]? = some (some (.dic kvs))) (hz : kvs.length + 1 ≤ 16777216) : runs (dputD (.loc n) (.int i) d) s QU = QU () (s.set n (some (.dic (putD kvs (.inl i) d)))) := by
  have e : dputD (.loc n) (.int i) d s = .ok () (s.set n (some (.dic (putD kvs (.inl i) d)))) := by
    unfold dputD
    rw [dicAt_loc h]
    exact if_pos (sz_small hz)
  unfold runs
  rw [e]
  exact propext ⟨fun ⟨_, _, e, q⟩ => by cases e; exact q, fun q => ⟨_, _, rfl, q⟩⟩
theorem r_dgetD {i : Int} (h : s[n]? = some (some (.dic kvs))) (hv : valD kvs (.inl i) = some d) : runs (dgetD (.loc n) (.int i)) s Q = Q d s := by
  have e : dgetD (.loc n) (.int i) s = .ok d s := by
    unfold dgetD
    rw [dicAt_loc h]
    show (match valD kvs (.inl i) with | some d => R.ok d s | none => .no) = _
    rw [hv]
  unfold runs
  rw [e]
  exact propext ⟨fun ⟨_, _, e, q⟩ => by cases e; exact q, fun q => ⟨_, _, rfl, q⟩⟩
theorem r_sortDic {ns : List Int} (h : s[n]? = some (some (.dic kvs))) (hv : kInts kvs = some ns) (hl : ns.length < 64) : runs (sortDicD (.loc n)) s Q = Q (.lst ((isort ns).map D.int)) s := by
  have e : sortDicD (.loc n) s = .ok (.lst ((isort ns).map D.int)) s := by
    show (match dicAt s (.loc n) with
      | some kvs => match kInts kvs with | some ns => if ns.length < 64 then mkLst ((isort ns).map D.int) s else .no | none => .no
      | none => R.no) = _
    rw [dicAt_loc h]
    simp only [hv]
    rw [if_pos hl, p_mkLst_of (sz_small (by rw [List.length_map, (isort_perm ns).length_eq]; omega))]; rfl
  unfold runs
  rw [e]
  exact propext ⟨fun ⟨_, _, e, q⟩ => by cases e; exact q, fun q => ⟨_, _, rfl, q⟩⟩
theorem p_psort {ps : List (Int × Int)} (hl : ps.length ≤ 16777216) : psortD mkLst (.lst (ps.map p2D)) = ret (.lst ((psort ps).map p2D)) := by
  funext s
  show (match pairsD (ps.map p2D) with | some ps => mkLst ((psort ps).map p2D) s | none => R.no) = _
  rw [pairsD_map]
  show mkLst _ s = _
  rw [p_mkLst_of (sz_small (by rw [List.length_map, (psort_perm ps).length_eq]; exact hl))]
theorem r_psortL {ps : List (Int × Int)} (hl : ps.length ≤ 16777216) : runs (psortD mkLoc (.lst (ps.map p2D))) s Q = Q (.loc s.length) (s ++ [some (.lst ((psort ps).map p2D))]) := by
  have e : psortD mkLoc (.lst (ps.map p2D)) = mkLoc ((psort ps).map p2D) := by
    funext s
    show (match pairsD (ps.map p2D) with | some ps => mkLoc ((psort ps).map p2D) s | none => R.no) = _
    rw [pairsD_map]
  rw [e, r_mklocN (by rw [List.length_map, (psort_perm ps).length_eq]; exact hl)]
def kEnT (Q : List D → Sto → Prop) (ds : List D) (s : Sto) : Prop := Q (enumDs ds) s
theorem r_ienumT : runs (iEnumDT f ρ) s QL = runs (f ρ) s (kM tupL (kEnT QL)) := by
  show runs (bnd _ _) s QL = _
  rw [r_bnd]
  congr 1
  funext d s'
  show runs (bnd _ _) _ _ = _
  rw [r_bnd]
  unfold kM
  congr 1
  funext d s'
  exact r_ret
theorem r_kent {ds : List D} : kEnT QL ds s = QL (enumDs ds) s := rfl
theorem p_tupL {ds : List D} : tupL (.tup ds) = ret ds := rfl
/-! two fors -/
theorem inL_pure {body : D → M (Option D)} {g : D → Option D} : ∀ {ds acc : List D}, (∀ d ∈ ds, body d = ret (g d)) → acc.length + ds.length ≤ 16777216 → inL body ds acc = ret (acc ++ ds.filterMap g)
  | [], acc, _, _ => by
    show ret acc = _
    rw [List.filterMap_nil, List.append_nil]
  | d :: ds, acc, h, hl => by
    rw [List.length_cons] at hl
    show bnd (body d) _ = _
    rw [h d List.mem_cons_self, bnd_ret]
    cases q : g d with
    | none =>
      show inL body ds acc = _
      rw [inL_pure (fun x hx => h x (List.mem_cons_of_mem _ hx)) (by omega), List.filterMap_cons, q]
    | some y =>
      show (if szOk (acc.length + 1) = true then inL body ds (acc ++ [y]) else stuck) = _
      rw [if_pos (sz_small (by omega)), inL_pure (fun x hx => h x (List.mem_cons_of_mem _ hx)) (by rw [List.length_append, List.length_singleton]; omega), List.filterMap_cons, q, List.append_assoc]; rfl
theorem outL_pure {ob : D → M (Option (En × List D))} {ib : En → D → M (Option D)} {m : Nat} {r : D → En} {ds1 : D → List D} {g : D → D → Option D} : ∀ {ds acc : List D}, (∀ d ∈ ds, ob d = ret (some (r d, ds1 d)) ∧ (ds1 d).length ≤ m ∧ ∀ e ∈ ds1 d, ib (r d) e = ret (g d e)) →
    acc.length + ds.length * m ≤ 16777216 → outL ob ib ds acc = ret (acc ++ ds.flatMap fun d => (ds1 d).filterMap (g d))
  | [], acc, _, _ => by
    show ret acc = _
    rw [List.flatMap_nil, List.append_nil]
  | d :: ds, acc, h, hl => by
    rw [List.length_cons, Nat.add_mul, Nat.one_mul] at hl
    obtain ⟨h1, h2, h3⟩ := h d List.mem_cons_self
    show bnd (ob d) _ = _
    rw [h1, bnd_ret]
    show bnd (inL (ib (r d)) (ds1 d) acc) (fun acc' => outL ob ib ds acc') = _
    rw [inL_pure h3 (by omega), bnd_ret, outL_pure (fun x hx => h x (List.mem_cons_of_mem _ hx)), List.flatMap_cons, List.append_assoc]
    have := List.length_filterMap_le (g d) (ds1 d)
    rw [List.length_append]; omega
def kLc2 (ob : D → M (Option (En × List D))) (ib : En → D → M (Option D)) (Q : D → Sto → Prop) (ds : List D) (s : Sto) : Prop := runs (outL ob ib ds []) s (kLt Q)
theorem r_lc2 {vs vs1 : List Nat} {fI fI1 : En → M (List D)} {g g1 : D → En → M En} {t t1 : En → M Bool} : runs (eLc2 vs vs1 fI g t fI1 g1 t1 f ρ) s Q = runs (fI ρ) s (kLc2 (ob2 vs g t fI1 ρ) (fun ρ' d => lcB vs1 g1 t1 f ρ' d) Q) := by
  show runs (bnd _ _) s Q = _
  rw [r_bnd]
  congr 1
  funext ds s1
  show runs (bnd _ _) _ _ = _
  rw [r_bnd]
  congr 1
  funext ys s2
  exact r_ret
theorem r_klc2 {ob : D → M (Option (En × List D))} {ib : En → D → M (Option D)} {ds : List D} : kLc2 ob ib Q ds s = runs (outL ob ib ds []) s (kLt Q) := rfl
def kO1 (t : En → M Bool) (fI1 : En → M (List D)) (QO : Option (En × List D) → Sto → Prop) (ρ : En) (s : Sto) : Prop := runs (bnd (t ρ) fun b => br b (bnd (fI1 ρ) fun ds1 => ret (some (ρ, ds1))) (ret none)) s QO
theorem r_ob2 {vs : List Nat} {fI1 : En → M (List D)} {g : D → En → M En} {t : En → M Bool} {QO : Option (En × List D) → Sto → Prop} : runs (ob2 vs g t fI1 ρ d) s QO = runs (g d (wipeD ρ vs)) s (kO1 t fI1 QO) := by
  unfold ob2
  rw [r_noEr, r_bnd]; rfl
theorem r_ko1 {t : En → M Bool} {fI1 : En → M (List D)} {QO : Option (En × List D) → Sto → Prop} : kO1 t fI1 QO ρ s = runs (bnd (t ρ) fun b => br b (bnd (fI1 ρ) fun ds1 => ret (some (ρ, ds1))) (ret none)) s QO := rfl
end
/-! ## lists of pairs compared -/
theorem smp_ps {n : Nat} : ∀ ps : List (Int × Int), (ps.map p2D).all (smp (n + 1)) = true
  | [] => rfl
  | p :: ps => by rw [List.map_cons, List.all_cons, smp_ps ps]; cases n <;> rfl
theorem smp_pl (ps : List (Int × Int)) : smp 9 (.lst (ps.map p2D)) = true := smp_ps ps
theorem eqv_ps : ∀ xs ys : List (Int × Int), PyData.eqvAll (D.pys (xs.map p2D)) (D.pys (ys.map p2D)) = decide (xs = ys)
  | [], [] => by rw [decide_eq_true rfl]; rfl
  | [], y :: ys => by rw [decide_eq_false (by simp)]; rfl
  | x :: xs, [] => by rw [decide_eq_false (by simp)]; rfl
  | x :: xs, y :: ys => by
    show ((x.1 == y.1 && (x.2 == y.2 && true)) && PyData.eqvAll (D.pys (xs.map p2D)) (D.pys (ys.map p2D))) = _
    rw [eqv_ps xs ys]
    obtain ⟨x1, x2⟩ := x
    obtain ⟨y1, y2⟩ := y
    by_cases h1 : x1 = y1
    · by_cases h2 : x2 = y2
      · by_cases h3 : xs = ys
        · subst h1 h2 h3; simp
        · rw [decide_eq_false h3, Bool.and_false, decide_eq_false (by simp [h3])]
      · rw [show (x2 == y2) = false from by simpa using h2, decide_eq_false (fun e => h2 (Prod.mk.inj (List.cons.inj e).1).2)]; simp
    · rw [show (x1 == y1) = false from by simpa using h1, decide_eq_false (fun e => h1 (Prod.mk.inj (List.cons.inj e).1).1)]; simp
theorem p_eq_ps {xs ys : List (Int × Int)} : eqD (.lst (xs.map p2D)) (.lst (ys.map p2D)) = ret (.bl (decide (xs = ys))) := by
  rw [p_eq_smp (smp_pl xs) (smp_pl ys)]
  exact congrArg (fun b => ret (D.bl b)) (eqv_ps xs ys)
theorem p_eq_psn {xs : List (Int × Int)} : eqD (.lst (xs.map p2D)) (.lst []) = ret (.bl (decide (xs = []))) := p_eq_ps (ys := [])
theorem eqv_pl {xs ys : List (Int × Int)} : eqv (.lst (xs.map p2D)) (.lst (ys.map p2D)) = decide (xs = ys) := eqv_ps xs ys
theorem smp_cl : ∀ (n : Nat) (d : D), smp n d = true → clD d = true := fun n d h => cl_of_lay d (smp_lay n d h).1
mutual
theorem drf_cl (s : Sto) : ∀ d : D, clD d = true → drf s d = d
  | .non, _ => drf_non
  | .bl _, _ => drf_bl
  | .int _, _ => drf_int
  | .str _, _ => by rw [drf] <;> simp
  | .gl _, _ => by rw [drf] <;> simp
  | .fz _, _ => by rw [drf] <;> simp
  | .loc _, h => by unfold clD at h; cases h
  | .tup ds, h => by
    unfold clD at h
    rw [drf_tup, drfs_cl s ds h]
  | .lst ds, h => by
    unfold clD at h
    rw [drf_lst, drfs_cl s ds h]
theorem drfs_cl (s : Sto) : ∀ ds : List D, clDs ds = true → drfs s ds = ds
  | [], _ => drfs_nil
  | d :: ds, h => by
    unfold clDs at h
    rw [Bool.and_eq_true] at h
    rw [drfs_cons, drf_cl s d h.1, drfs_cl s ds h.2]
end
theorem clDs_ps (ps : List (Int × Int)) : clDs (ps.map p2D) = true := by
  have := smp_cl 9 _ (smp_pl ps)
  rw [clD_lst] at this; exact this
/-! ## generators, plain -/
section
variable {s : Sto} {ρ : En} {ys : List D} {f g : GF} {f1 f2 f3 : En → M D} {h : En → M Fl} {Q : List D × Fl → Sto → Prop} {QF : Fl → Sto → Prop}
def thenG (g : GF) (Q : List D × Fl → Sto → Prop) (p : List D × Fl) (s : Sto) : Prop := match p with
  | (ys, .nx ρ) => runs (g ys ρ) s Q
  | (ys, .rt d) => Q (ys, .rt d) s
  | (ys, .bk ρ) => Q (ys, .bk ρ) s
  | (ys, .ct ρ) => Q (ys, .ct ρ) s
theorem r_gseq : runs (gSeq f g ys ρ) s Q = runs (f ys ρ) s (thenG g Q) := by
  show runs (bnd (f ys ρ) _) s Q = _
  rw [r_bnd]
  congr 1
  funext p s'
  obtain ⟨ys', fl⟩ := p
  cases fl
  · rfl
  · exact r_ret
  · exact r_ret
  · exact r_ret
theorem r_thgnx : thenG g Q (ys, .nx ρ) s = runs (g ys ρ) s Q := rfl
theorem r_thgrt {d : D} : thenG g Q (ys, .rt d) s = Q (ys, .rt d) s := rfl
def kPl (ys : List D) (Q : List D × Fl → Sto → Prop) (fl : Fl) (s : Sto) : Prop := Q (ys, fl) s
theorem r_gpl : runs (gPl h ys ρ) s Q = runs (h ρ) s (kPl ys Q) := by
  show runs (bnd (h ρ) _) s Q = _
  rw [r_bnd]
  congr 1
  funext fl s'
  exact r_ret
theorem r_kpl {fl : Fl} : kPl ys Q fl s = Q (ys, fl) s := rfl
theorem r_gnx : runs (gNx ys ρ) s Q = Q (ys, .nx ρ) s := r_ret
def kYd (ys : List D) (ρ : En) (Q : List D × Fl → Sto → Prop) (d : D) (s : Sto) : Prop := Q (ys ++ [d], .nx ρ) s
theorem r_gyield (hl : ys.length + 1 ≤ 16777216) : runs (gYield f1 ys ρ) s Q = runs (f1 ρ) s (kYd ys ρ Q) := by
  unfold gYield
  rw [if_pos (sz_small hl), r_bnd]
  congr 1
  funext d s'
  exact r_ret
theorem r_kyd {d : D} : kYd ys ρ Q d s = Q (ys ++ [d], .nx ρ) s := rfl
def kGf (g : D → En → M En) (fb : GF) (ys : List D) (ρ : En) (Q : List D × Fl → Sto → Prop) (ds : List D) (s : Sto) : Prop := runs (gforL (fun d ys ρ => bnd (g d ρ) fun ρ' => fb ys ρ') ds ys ρ) s Q
theorem r_gfor {fi : En → M (List D)} {tg : D → En → M En} : runs (gFor fi tg f ys ρ) s Q = runs (fi ρ) s (kGf tg f ys ρ Q) := r_bnd
theorem r_kgf {tg : D → En → M En} {ds : List D} : kGf tg f ys ρ Q ds s = runs (gforL (fun d ys ρ => bnd (tg d ρ) fun ρ' => f ys ρ') ds ys ρ) s Q := rfl
def kLG (m : List D → M (List D)) (Q : D → Sto → Prop) (ds : List D) (s : Sto) : Prop := runs (m ds) s (kM mkLst Q)
theorem r_listG {fa : En → M (List D)} {m : List D → M (List D)} {Q : D → Sto → Prop} : runs (eListG fa m ρ) s Q = runs (fa ρ) s (kLG m Q) := by
  show runs (bnd _ _) s Q = _
  rw [r_bnd]
  congr 1
  funext ds s'
  show runs (bnd _ _) _ _ = _
  rw [r_bnd, r_noEr]; rfl
theorem r_klg {m : List D → M (List D)} {Q : D → Sto → Prop} {ds : List D} : kLG m Q ds s = runs (m ds) s (kM mkLst Q) := rfl
def kP3c (i j l : Nat) (x y : D) (ρ : En) (QF : Fl → Sto → Prop) (z : D) (s : Sto) : Prop := QF (.nx (((ρ.set i (some x)).set j (some y)).set l (some z))) s
def kP3b (i j l : Nat) (f3 : En → M D) (x : D) (ρ : En) (QF : Fl → Sto → Prop) (y : D) (s : Sto) : Prop := runs (f3 ρ) s (kP3c i j l x y ρ QF)
def kP3a (i j l : Nat) (f2 f3 : En → M D) (ρ : En) (QF : Fl → Sto → Prop) (x : D) (s : Sto) : Prop := runs (f2 ρ) s (kP3b i j l f3 x ρ QF)
theorem r_par3 {i j l : Nat} : runs (sPar3 i j l f1 f2 f3 ρ) s QF = runs (f1 ρ) s (kP3a i j l f2 f3 ρ QF) := by
  show runs (bnd _ _) s QF = _
  rw [r_bnd]
  congr 1
  funext x s1
  show runs (bnd _ _) _ _ = _
  rw [r_bnd]
  congr 1
  funext y s2
  show runs (bnd _ _) _ _ = _
  rw [r_bnd]
  congr 1
  funext z s3
  exact r_ret
theorem r_kp3a {i j l : Nat} {x : D} : kP3a i j l f2 f3 ρ QF x s = runs (f2 ρ) s (kP3b i j l f3 x ρ QF) := rfl
theorem r_kp3b {i j l : Nat} {x y : D} : kP3b i j l f3 x ρ QF y s = runs (f3 ρ) s (kP3c i j l x y ρ QF) := rfl
theorem r_kp3c {i j l : Nat} {x y z : D} : kP3c i j l x y ρ QF z s = QF (.nx (((ρ.set i (some x)).set j (some y)).set l (some z))) s := rfl
theorem r_flOutG {ρ : En} {Q : List D → Sto → Prop} : runs (flOutG (ys, .nx ρ)) s Q = Q ys s := r_ret
end
theorem p_ix_l1 {a b : D} {xs : List D} : ixD (.lst (a :: b :: xs)) (.int 1) = ret b := p_ix_nat (n := 1) rfl
theorem p_ix_l2 {a b c : D} {xs : List D} : ixD (.lst (a :: b :: c :: xs)) (.int 2) = ret c := p_ix_nat (n := 2) rfl
theorem p_ix_l3 {a b c d : D} {xs : List D} : ixD (.lst (a :: b :: c :: d :: xs)) (.int 3) = ret d := p_ix_nat (n := 3) rfl
end DL

namespace DL
open PySem PySem.Spec PyProof.Rows L2
/-! ## set(xs) of a list of ints, with the order that sorted wants -/
abbrev ledO (w : World) : Obj := { cls := .type "set", dict := none, data := .set #[] 0 (.fresh 0 0 (!w.params.followText "set-order")) }
section
variable {P : Program} {w : World} {A : Around} {E : Value → Shared → Prop} {s : Shared}
set_option maxHeartbeats 8000000 in
theorem setInit_lst {l : Addr} {its : Array Value} {ns : List Int} {R : Result → Shared → Prop} (hh : A.handled = none) (hl : s.heap.IsList l its) (hi : IntsAre its.toList ns) (hb : ns.length + 1 < scanBound)
    (hR : ∀ (h' : Heap) (tk c : Nat), SetR w h' s.heap.objs.size (fun j => decide (j ∈ ns)) c → (∀ b o, s.heap.get? b = some o → h'.get? b = some o) → R (.ok (.ret .none)) { s with heap := h', toks := tk }) :
    wpAny (model P w) A.in1 (Builtin.«set.__init__» ⟨[.ref s.heap.objs.size, .ref l], []⟩)
      (fun fin s' => match fin with | .done f => R (.ok f) s' | .again c' => c'.quiet = true ∧ codeAny (model P w) A c' R s') (fun e s' => R (.error e) s') { s with heap := s.heap.push (ledO w) } := by
  have en : its.size = ns.length := by have q := hi.length; rwa [Array.length_toList] at q
  obtain ⟨⟨cls, dd, dat, sl⟩, ho, hc, n, hd⟩ := hl
  simp only at hc hd
  subst hc; subst hd
  have lt : l < s.heap.objs.size := Heap.lt_size ho
  have hS : (s.heap.push (ledO w)).get? s.heap.objs.size = some (ledO w) := Heap.get?_push_size _ rfl
  have hT : Shared.TypeIs { s with heap := s.heap.push (ledO w) } (.ref s.heap.objs.size) "set" := ⟨_, hS, rfl⟩
  have hol : (s.heap.push (ledO w)).get? l = some { cls := .type "list", dict := dd, data := .seq its n, slots := sl } := Heap.get?_push_of_some _ ho
  have hL : (s.heap.push (ledO w)).IsList l its := ⟨_, hol, rfl, n, rfl⟩
  have no1 := F.sub_list_set
  have no2 := F.sub_list_frozenset
  have no3 : (Value.type "list" == Value.type "dict") = false := by decide
  unfold Builtin.«set.__init__» noKeywords Builtin.Frozenset.updateFrom
  generalize eI : pyIter = PI
  wp_walk
  subst eI
  refine wpAny_pyIter_list hL (wpAny_bind (wpAny_runValue ?_))
  have zs : (s.heap.push (ledO w)).objs.size = s.heap.objs.size + 1 := Heap.size_push ..
  have ne1 : l ≠ (s.heap.push (ledO w)).objs.size := by rw [zs]; exact Nat.ne_of_lt (Nat.lt_succ_of_lt lt)
  have ne2 : s.heap.objs.size ∉ [(s.heap.push (ledO w)).objs.size, l] := by
    rw [zs]
    intro z
    rcases List.mem_cons.mp z with z | z
    · exact absurd z (Nat.ne_of_lt (Nat.lt_succ_self _))
    · exact absurd (List.mem_singleton.mp z) (Nat.ne_of_gt lt)
  have hv : ∀ (i : Nat) (v : Value), its[i]? = some v → ∃ k t, ns[i]? = some k ∧ v = .int k t := fun i v e => by
    have lti : i < ns.length := by rw [← en]; exact (Array.getElem?_eq_some_iff.mp e).1
    obtain ⟨t, q⟩ := IntsAre.int_at hi i v (by rw [Array.getElem?_toList]; exact e)
    have eg : ns[i]? = some ns[i] := List.getElem?_eq_getElem lti
    exact ⟨ns[i], t, eg, by rw [q, List.getD_eq_getElem?_getD, eg]; rfl⟩
  have h3 : A.in1.in1.handled = none := by simp [hh]
  have hget : ((s.heap.push (ledO w)).push { cls := .type "list_iterator", data := .fields #[.ref l, .int 0 0] }).get? s.heap.objs.size = some (ledO w) := Heap.get?_push_of_some _ hS
  refine set_update_ints (Walks.list h3 _ l ne1 its).toS s.heap.objs.size ne2 ns en hb hv its.size 0 _ rfl (Nat.zero_le _) ⟨⟨_, Heap.get?_push_size _ rfl, rfl, rfl⟩, hL.push _⟩ ⟨0, Nat.le_refl 0, setR_new_at hget⟩ fun s' c hm _ hR' => ?_
  obtain ⟨h', g2, d2, tk, os2⟩ := s'
  obtain rfl : g2 = s.gens := hm.gens
  obtain rfl : d2 = s.drawn := hm.drawn
  obtain rfl : os2 = s.os := hm.os
  show wpAny _ _ _ _ _ _
  refine wpAny_pure ?_
  show wpAny _ _ (PySem.ret Value.none) _ _ _
  refine wpAny_pure (hR h' tk c hR' fun b o e => ?_)
  have lb : b < s.heap.objs.size := Heap.lt_size e
  refine hm.heap b o (fun z => ?_) (Heap.get?_push_of_some _ (Heap.get?_push_of_some _ e))
  rcases List.mem_cons.mp z with z | z
  · exact absurd z (Nat.ne_of_lt lb)
  · have q := List.mem_singleton.mp z
    rw [zs] at q
    exact absurd q (Nat.ne_of_lt (Nat.lt_succ_of_lt lb))
theorem setNew_lst {l : Addr} {its : Array Value} {ns : List Int} {Q : Value → Shared → Prop} (hh : A.handled = none) (hl : s.heap.IsList l its) (hi : IntsAre its.toList ns) (hb : ns.length + 1 < scanBound)
    (hQ : ∀ (h' : Heap) (tk c : Nat), SetR w h' s.heap.objs.size (fun j => decide (j ∈ ns)) c → (∀ b o, s.heap.get? b = some o → h'.get? b = some o) → Q (.ref s.heap.objs.size) { s with heap := h', toks := tk }) :
    wpAny (model P w) A (call (.type "set") [.ref l]) Q E s := by
  have T := F.called_set
  obtain ⟨c0, tl0, m0⟩ := T.mro
  have f1 := T.made
  have f2 := T.sub
  have f3 := T.notType
  have f4 := T.canCreate
  have f5 := F.typeCall_set_1 (.ref l)
  refine wpAny_call (codeAny_of_tree ?_)
  show wpAny _ _ (callAny (.type "set") _) _ _ _
  refine wpAny_pure ⟨Code.quiet_builtin _ (by decide +kernel), codeAny_builtin F.entry_type_call ?_⟩
  rw [Around.under_plain (weight_type_call_type "set" [.ref l] []) rfl]
  repeat (any_goals (first | assumption | wp_step))
  refine codeAny_mono (code_set_led1 (.ref l) (E := E) (Q₁ := fun v s1 => v = .ref s.heap.objs.size ∧ s1 = { s with heap := s.heap.push (ledO w) }) ⟨rfl, rfl⟩) fun r s1 hr => ?_
  match r, hr with
  | .error e, hr => exact hr
  | .ok (.ret v), hr =>
    obtain ⟨rfl, rfl⟩ := hr
    have hT : Shared.TypeIs { s with heap := s.heap.push (ledO w) } (.ref s.heap.objs.size) "set" := ⟨_, Heap.get?_push_size _ rfl, rfl⟩
    have g1 := T.init.lookup
    have g2 := T.init.bind (.ref s.heap.objs.size)
    repeat (any_goals (first | assumption | wp_step))
    refine codeAny_mono (codeAny_call_builtin (R := wants (fun r s2 => r = .none ∧ Q (.ref s.heap.objs.size) s2) E) T.init.plain F.entry_set_init (check_set_init_1 hT ?_)) fun r2 s2 h2 => ?_
    · exact setInit_lst hh hl hi hb fun h' tk c a b => ⟨rfl, hQ h' tk c a b⟩
    · match r2, h2 with
      | .error e, h2 => exact h2
      | .ok (.ret v), h2 =>
        obtain ⟨rfl, q⟩ := h2
        repeat (any_goals (first | assumption | wp_step))
end

/-! ## strictly ascending lists of ints -/
def sins (x : Int) : List Int → List Int
  | [] => [x]
  | y :: r => if x < y then x :: y :: r else if x = y then y :: r else y :: sins x r
def ssort (ns : List Int) : List Int := ns.foldr sins []
theorem mem_sins {x k : Int} : ∀ {l : List Int}, k ∈ sins x l ↔ k = x ∨ k ∈ l
  | [] => by simp [sins]
  | y :: r => by
    unfold sins
    split
    · simp
    · split
      · rename_i h; subst h; simp
      · rw [List.mem_cons, mem_sins, List.mem_cons, or_left_comm]
theorem mem_ssort {k : Int} : ∀ {ns : List Int}, k ∈ ssort ns ↔ k ∈ ns
  | [] => Iff.rfl
  | n :: ns => by
    show k ∈ sins n (ssort ns) ↔ _
    rw [mem_sins, mem_ssort, List.mem_cons]
theorem sins_asc {x : Int} : ∀ {l : List Int}, l.Pairwise (· < ·) → (sins x l).Pairwise (· < ·)
  | [], _ => by simp [sins]
  | y :: r, h => by
    obtain ⟨h1, h2⟩ := List.pairwise_cons.mp h
    unfold sins
    split
    · rename_i lt
      refine List.pairwise_cons.mpr ⟨fun z hz => ?_, h⟩
      rcases List.mem_cons.mp hz with e | e
      · rw [e]; exact lt
      · exact Int.lt_trans lt (h1 z e)
    · split
      · exact h
      · rename_i n1 n2
        refine List.pairwise_cons.mpr ⟨fun z hz => ?_, sins_asc h2⟩
        rcases mem_sins.mp hz with e | e
        · rw [e]; omega
        · exact h1 z e
theorem ssort_asc : ∀ ns : List Int, (ssort ns).Pairwise (· < ·)
  | [] => .nil
  | n :: ns => sins_asc (ssort_asc ns)
theorem asc_uniq {l m : List Int} (hl : l.Pairwise (· < ·)) (hm : m.Pairwise (· < ·)) (h : ∀ k, k ∈ l ↔ k ∈ m) : l = m := by
  have nd : ∀ {l : List Int}, l.Pairwise (· < ·) → l.Nodup := fun h => h.imp fun {a b} q e => by rw [e] at q; exact absurd q (Int.lt_irrefl _)
  exact List.Perm.eq_of_pairwise (fun a b _ _ h1 h2 => absurd (Int.lt_trans h1 h2) (Int.lt_irrefl _)) hl hm ((List.perm_ext_iff_of_nodup (nd hl) (nd hm)).mpr h)
theorem ssort_of {l ns : List Int} (hl : l.Pairwise (· < ·)) (h : ∀ k, k ∈ l ↔ k ∈ ns) : ssort ns = l := asc_uniq (ssort_asc ns) hl fun k => mem_ssort.trans (h k).symm
theorem ssort_idem {ns : List Int} (h : ns.Pairwise (· < ·)) : ssort ns = ns := ssort_of h fun _ => Iff.rfl
theorem asc_nodup {l : List Int} (h : l.Pairwise (· < ·)) : l.Nodup := h.imp fun {a b} q e => by rw [e] at q; exact absurd q (Int.lt_irrefl _)
theorem ssort_len {l ns : List Int} (hl : l.Nodup) (h : ∀ k, k ∈ l ↔ k ∈ ns) : l.length = (ssort ns).length :=
  ((List.perm_ext_iff_of_nodup hl (asc_nodup (ssort_asc ns))).mpr fun k => (h k).trans mem_ssort.symm).length_eq
/-! ## set(xs) as a temporary; sorted(set(xs)), len(set(xs)) -/
def rSetI (K : PySem.W.Frag) (w : World) : List V → Hp → VK → Prop := fun xs H Q => ∃ (l : Addr) (ns : List Int), xs = [V.ref l] ∧ (SqL K H l (ns.map V.int) ∨ SqT K H l (ns.map V.int)) ∧ ns.length < 64 ∧
  ∀ p, H p = none → Q (.ref p) (upd H p (SetO w p (fun j => decide (j ∈ ns)) (ssort ns).length))
theorem setR_n {w : World} {h : Heap} {a : Addr} {ns : List Int} {c : Nat} (R : SetR w h a (fun j => decide (j ∈ ns)) c) : SetR w h a (fun j => decide (j ∈ ns)) (ssort ns).length := by
  have R' := R
  obtain ⟨o, es, ep, t, ho, hex, hd, g, nd, hm, hb, hf, hn, hr, hl⟩ := R'
  have e : c = (ssort ns).length := by
    rw [← ssort_len nd (ns := ns) fun k => (hm k).symm.trans decide_eq_true_iff, List.length_map, Array.length_toList, hn]
  rw [← e]; exact R
section
variable {X : Cx}
theorem cr_setI (hc : X.calm = true) : CallR X (.type "set") (rSetI X.K X.w) := by
  intro pins s σ H xs us Q I r h
  obtain ⟨l, ns, rfl, hq, h64, q⟩ := h
  rw [Vals.ref1 r]
  have hb : ns.length + 1 < scanBound := by unfold scanBound; omega
  rcases hq with hq | hq
  · obtain ⟨its, rv, pl, hz⟩ := I.list hq
    refine setNew_lst (I.ok.hd hc) pl.isList (by simpa using ints_of_vals rv) hb fun h' tk c R k => ?_
    exact ⟨.ref s.heap.objs.size, _, I.laid (t' := tk) k (Nat.le_refl _) (setO_new (setR_n R)), rfl, q _ (I.hok.fresh (Nat.le_refl _))⟩
  · obtain ⟨its, rv, pl, hz⟩ := I.tuple hq
    refine call_set_tupI ns (I.ok.hd hc) pl (by simpa using ints_of_vals rv) hb fun h' tk c R _ k => ?_
    exact ⟨.ref s.heap.objs.size, _, I.laid (t' := tk) k (Nat.le_refl _) (setO_new (setR_n R)), rfl, q _ (I.hok.fresh (Nat.le_refl _))⟩
def rLenSet (w : World) : List V → Hp → VK → Prop := fun vs H Q => ∃ (a : Addr) (S : Int → Bool) (n : Nat), vs = [V.ref a] ∧ H a = some (SetO w a S n) ∧ n < 64 ∧ Q (.int (n : Nat)) H
theorem cr_lenSet : CallR X (.builtin "len") (rLenSet X.w) := by
  intro pins s σ H vs us Q I r h
  obtain ⟨a, S, n, rfl, ha, h64, q⟩ := h
  rw [Vals.ref1 r]
  obtain ⟨o, es, ep, t, ho, hex, hd, _, _, _, hb, hf, hn, _, _⟩ := setO_get I ha
  exact call_len_set ho hex hd hf (by rw [hn]; omega) ⟨.int n, H, I.tok _, ⟨_, by rw [hn]⟩, q⟩
end
def ssortD (a : D) : M D := fun s => match viewR s a with
  | some ds => match intsD ds with | some ns => if ns.length < 64 then mkLst ((ssort ns).map D.int) s else .no | none => .no
  | none => .no
def lenSetD (a : D) : M D := fun s => match viewR s a with
  | some ds => match intsD ds with | some ns => if ns.length < 64 then .ok (.int ((ssort ns).length : Nat)) s else .no | none => .no
  | none => .no
theorem ssort_len_le (ns : List Int) : (ssort ns).length ≤ ns.length := by
  have sl : ∀ (x : Int) (l : List Int), (sins x l).length ≤ l.length + 1 := fun x l => by
    induction l with
    | nil => exact Nat.le_refl _
    | cons y r ih =>
      unfold sins
      split
      · exact Nat.le_refl _
      · split
        · exact Nat.le_succ _
        · rw [List.length_cons, List.length_cons]; omega
  induction ns with
  | nil => exact Nat.le_refl _
  | cons n ns ih =>
    have := sl n (ssort ns)
    show (sins n (ssort ns)).length ≤ ns.length + 1
    omega
section
variable {X : Cx} {E : XK} {pos p p2 pos2 : Pos} {e : Expr} {f : En → M D} {k : Nat}
theorem boot_setT : bootBuiltins "set" = some (.type "set") := by decide +kernel
theorem de_sortedSet (C : Ctl X E k) (hm : X.mg "sorted" = none) (hm2 : X.mg "set" = none) (ha : DE X E e f) (hg : Gl X "sorted" := by rfl) (hg2 : Gl X "set" := by rfl) (he : starEach [e] X.env = (false, eval e X.env) :: starEach [] X.env := by rfl)
    (he2 : starEach [.Call (.Name "set" p2) [e] [] pos2] X.env = (false, eval (.Call (.Name "set" p2) [e] [] pos2) X.env) :: starEach [] X.env := by rfl) : DE X E (.Call (.Name "sorted" p) [.Call (.Name "set" p2) [e] [] pos2] [] pos) (eCall (aCons f aNil) (on1 ssortD)) :=
  (pe_callB (cr_sortedSet C.calm) hg hm (by decide +kernel) (pa_cons (pe_callTy (cr_setI C.calm) hg2 hm2 boot_setT (da_cons ha da_nil he) (by decide) (by decide) he) pa_nil he2) (by decide) (by decide) he2).imp fun σ H Q ⟨ρ, w, e, ok, re, h⟩ => by
    subst e
    refine ⟨ρ, w, rfl, ok, re, (Fin.bind h).imp fun ds w1 l1 ok1 h1 vs rv => ?_⟩
    match ds, rv, h1 with
    | [a], rv, h1 =>
      obtain ⟨v, rfl, ra⟩ := rep1 rv
      have h1' : Fin X.K X.mg E w1 (ssortD a w1.s) _ := h1
      unfold ssortD at h1'
      split at h1'
      · rename_i ds hv
        split at h1'
        · rename_i ns hn
          split at h1'
          · rename_i h64
            obtain ⟨l, xs, rfl, hs, r⟩ := rep_rd ok1 ra hv
            rw [repL_ints r hn] at hs
            refine ⟨l, ns, rfl, hs, h64, fun p hp => ?_⟩
            obtain ⟨ok2, l2⟩ := ok1.newI hp (SetO X.w p (fun j => decide (j ∈ ns)) (ssort ns).length)
            refine ⟨p, _, _, rfl, upd_same, Nat.lt_of_le_of_lt (ssort_len_le ns) h64, fun ms p' h2 h3 _ hp' => ?_⟩
            have em : ssort ns = ms := ssort_of h2 fun k => (h3 k).trans decide_eq_true_iff
            rw [em] at h1'
            exact (fin_lst ok2 (repL_intsB ms) (Fin.up h1' l2)).2 p' hp'
          · exact h1'.elim
        · exact h1'.elim
      · exact h1'.elim
    | [], _, h1 => exact h1.elim
    | _ :: _ :: _, _, h1 => exact h1.elim
theorem de_lenSet (C : Ctl X E k) (hm : X.mg "len" = none) (hm2 : X.mg "set" = none) (ha : DE X E e f) (hg : Gl X "len" := by rfl) (hg2 : Gl X "set" := by rfl) (he : starEach [e] X.env = (false, eval e X.env) :: starEach [] X.env := by rfl)
    (he2 : starEach [.Call (.Name "set" p2) [e] [] pos2] X.env = (false, eval (.Call (.Name "set" p2) [e] [] pos2) X.env) :: starEach [] X.env := by rfl) : DE X E (.Call (.Name "len" p) [.Call (.Name "set" p2) [e] [] pos2] [] pos) (eCall (aCons f aNil) (on1 lenSetD)) :=
  (pe_callB cr_lenSet hg hm PySem.boot_len (pa_cons (pe_callTy (cr_setI C.calm) hg2 hm2 boot_setT (da_cons ha da_nil he) (by decide) (by decide) he) pa_nil he2) (by decide) (by decide) he2).imp fun σ H Q ⟨ρ, w, e, ok, re, h⟩ => by
    subst e
    refine ⟨ρ, w, rfl, ok, re, (Fin.bind h).imp fun ds w1 l1 ok1 h1 vs rv => ?_⟩
    match ds, rv, h1 with
    | [a], rv, h1 =>
      obtain ⟨v, rfl, ra⟩ := rep1 rv
      have h1' : Fin X.K X.mg E w1 (lenSetD a w1.s) _ := h1
      unfold lenSetD at h1'
      split at h1'
      · rename_i ds hv
        split at h1'
        · rename_i ns hn
          split at h1'
          · rename_i h64
            obtain ⟨l, xs, rfl, hs, r⟩ := rep_rd ok1 ra hv
            rw [repL_ints r hn] at hs
            refine ⟨l, ns, rfl, hs, h64, fun p hp => ?_⟩
            obtain ⟨ok2, l2⟩ := ok1.newI hp (SetO X.w p (fun j => decide (j ∈ ns)) (ssort ns).length)
            exact ⟨p, _, _, rfl, upd_same, Nat.lt_of_le_of_lt (ssort_len_le ns) h64, h1' _ l2 ok2 rfl _ (.int _)⟩
          · exact h1'.elim
        · exact h1'.elim
      · exact h1'.elim
    | [], _, h1 => exact h1.elim
    | _ :: _ :: _, _, h1 => exact h1.elim
end
/-! ## sorted of alike data, any length -/
open PySem.W in
def isT1 (d : D) : Bool := match d with | .tup (_ :: _) => true | _ => false
def isO1 (d : D) : Bool := match d with | .tup _ => false | .non => false | _ => true
def aokD (ds : List D) : Bool := ds.all okD && (ds.all fun a => ds.all fun b => PySem.W.alike a.py b.py) && (ds.all isT1 || ds.all isO1)
def ale (a b : D) : Bool := !PySem.W.dataLt b.py a.py
def asort (ds : List D) : List D := ds.mergeSort ale
def asortD (mk : List D → M D) (a : D) : M D := fun s => match viewL s a with
  | some ds => if aokD ds = true then mk (asort ds) s else .no
  | none => .no
def zle (a b : V × D) : Bool := ale a.2 b.2
def rSortA (K : PySem.W.Frag) : List V → Hp → VK → Prop := fun vs H Q => ∃ (l : Addr) (zs : List (V × D)), vs = [V.ref l] ∧ SqL K H l (zs.map (·.1)) ∧ (∀ z ∈ zs, Dp K H z.1 z.2.py) ∧ aokD (zs.map (·.2)) = true ∧
  ∀ p, H p = none → Q (.ref p) (upd H p (.lst ((zs.mergeSort zle).map (·.1))))
open PySem.W in
theorem each_vals : ∀ {zs : List (V × D)} {us : List Value}, Vals (zs.map (·.1)) us → EachIs (fun u (z : V × D) => RelV z.1 u) us zs
  | [], _, .nil => .nil
  | _ :: _, _, .cons r t => .cons r (each_vals t)
open PySem.W in
theorem vals_each : ∀ {zs : List (V × D)} {us : List Value}, EachIs (fun u (z : V × D) => RelV z.1 u) us zs → Vals (zs.map (·.1)) us
  | [], _, .nil => .nil
  | _ :: _, _, .cons r t => .cons r (vals_each t)
section
variable {X : Cx}
open PySem.W in
theorem cr_sortA (hu : X.A.units + 67 < cLine) : CallR X (.builtin "sorted") (rSortA X.K) := by
  intro pins s σ H vs us Q I r h
  obtain ⟨l, zs, rfl, hs, hd, hk, q⟩ := h
  obtain ⟨its, rv, hl, hz⟩ := I.list hs
  rw [Vals.ref1 r]
  unfold aokD at hk
  rw [Bool.and_eq_true, Bool.and_eq_true, Bool.or_eq_true] at hk
  obtain ⟨⟨k1, k2⟩, k3⟩ := hk
  have ev := each_vals rv
  have er : EachIs (fun v (z : V × D) => ∃ as, Reads s.heap v z.2.py as) its zs := (each_mem ev).mono fun u z ⟨a, b⟩ => Dp.reads I _ _ _ (hd z b) a
  have hal : AllAlike (zs.map fun z : V × D => z.2.py) := by
    intro d h1 d' h2
    obtain ⟨z, m1, rfl⟩ := List.mem_map.mp h1
    obtain ⟨z', m2, rfl⟩ := List.mem_map.mp h2
    exact List.all_eq_true.mp (List.all_eq_true.mp k2 _ (List.mem_map_of_mem m1)) _ (List.mem_map_of_mem m2)
  have hso : Sortable (zs.map fun z : V × D => z.2.py) := by
    rcases k3 with k3 | k3
    · refine .inl fun d h1 => ?_
      obtain ⟨z, m1, rfl⟩ := List.mem_map.mp h1
      have := List.all_eq_true.mp k3 _ (List.mem_map_of_mem (f := (·.2)) m1)
      cases e : z.2 with
      | tup ds =>
        rw [e] at this
        cases ds with
        | nil => cases this
        | cons a b => exact ⟨_, _, rfl⟩
      | _ => rw [e] at this; cases this
    · refine .inr fun d h1 => ?_
      obtain ⟨z, m1, rfl⟩ := List.mem_map.mp h1
      have := List.all_eq_true.mp k3 _ (List.mem_map_of_mem (f := (·.2)) m1)
      cases e : z.2 with
      | tup ds => rw [e] at this; cases this
      | non => rw [e] at this; cases this
      | _ => exact ⟨fun q => (by cases q), fun _ q => (by cases q)⟩
  have hlen : zs.length ≤ sizeLine := by rw [List.length_map] at hz; exact hz
  refine sorted_data (enc := fun z : V × D => z.2.py) hl.isList ev er hal hso hlen (fun z hz => ?_) fun out ho e => ?_
  · have := SeqAt.depth_of_shaped (show SeqAt.shaped z.2.py = true from List.all_eq_true.mp k1 _ (List.mem_map_of_mem hz))
    omega
  · have e' : EachIs (fun u (z : V × D) => RelV z.1 u) out (zs.mergeSort zle) := e
    obtain ⟨ep, he⟩ := PyProof.Rows.sortedAll_at s.heap its out.toArray
    have hl2 : ((zs.mergeSort zle).map (·.1)).length ≤ sizeLine := by rw [List.length_map, List.length_mergeSort]; exact hlen
    exact ⟨.ref _, upd H (s.heap.objs.size + 1) (.lst ((zs.mergeSort zle).map (·.1))), I.laid (t' := s.toks) (fun _ _ => PyProof.Rows.sortedAll_old) (Nat.le_succ _) ⟨hl2, out, ep, vals_each e', he⟩, rfl, q _ (I.hok.fresh (Nat.le_succ _))⟩
end
section
variable {X : Cx} {E : XK} {pos p : Pos} {e : Expr} {f : En → M D} {k : Nat}
theorem repL_zip {K : PySem.W.Frag} {w : Wd} : ∀ {ds : List D} {vs : List V}, w.repL K ds vs → ∃ zs : List (V × D), zs.map (·.1) = vs ∧ zs.map (·.2) = ds ∧ ∀ z ∈ zs, w.rep K z.2 z.1
  | [], _, .nil => ⟨[], rfl, rfl, fun z h => (by cases h)⟩
  | d :: ds, v :: vs, .cons a b => by
    obtain ⟨zs, h1, h2, h3⟩ := repL_zip b
    exact ⟨(v, d) :: zs, by rw [List.map_cons, h1], by rw [List.map_cons, h2], fun z hz => by
      rcases List.mem_cons.mp hz with q | q
      · rw [q]; exact a
      · exact h3 z q⟩
theorem zip_repL {K : PySem.W.Frag} {w : Wd} : ∀ {zs : List (V × D)}, (∀ z ∈ zs, w.rep K z.2 z.1) → w.repL K (zs.map (·.2)) (zs.map (·.1))
  | [], _ => .nil
  | z :: zs, h => .cons (h z List.mem_cons_self) (zip_repL fun y hy => h y (List.mem_cons_of_mem _ hy))
theorem asort_run {K : PySem.W.Frag} {mg : Str → Option Value} {mk : List D → M D} (hk : ∀ {ds : List D} {vs : List V} {w : Wd} {Q : VK}, w.Ok K → w.repL K ds vs → (Fin K mg E w (mk ds w.s) fun d w' => ∀ v, w'.rep K d v → Q v w'.H) → vs.length ≤ sizeLine ∧ ∀ p, w.H p = none → Q (.ref p) (upd w.H p (.lst vs))) : CallD K mg E (rSortA K) (on1 (asortD mk)) := cd1 fun a v w Q ok ra q => by
  unfold asortD at q
  split at q
  · rename_i ds h
    split at q
    · rename_i hok
      obtain ⟨p, ys, rfl, hs, r⟩ := rep_lst ok ra h
      obtain ⟨zs, rfl, rfl, hz⟩ := repL_zip r
      refine ⟨p, zs, rfl, SqL.of hs, fun z hz' => rep_dp ok _ _ (hz z hz') ?_, hok, fun p' hp' => ?_⟩
      · unfold aokD at hok
        rw [Bool.and_eq_true, Bool.and_eq_true] at hok
        exact SeqAt.canLay_of_shaped (List.all_eq_true.mp hok.1.1 _ (List.mem_map_of_mem hz'))
      · have e : (zs.mergeSort zle).map (·.2) = asort (zs.map (·.2)) := List.map_mergeSort (fun a _ b _ => rfl)
        rw [← e] at q
        exact (hk ok (zip_repL fun z h => hz z ((List.mergeSort_perm zs zle).mem_iff.mp h)) q).2 p' hp'
    · exact q.elim
  · exact q.elim
theorem Ctl.hu67 (C : Ctl X E k) : X.A.units + 67 < cLine := by have := C.room.un; omega
theorem de_sortedA (C : Ctl X E k) (hm : X.mg "sorted" = none) (ha : DE X E e f) (hg : Gl X "sorted" := by rfl) (he : starEach [e] X.env = (false, eval e X.env) :: starEach [] X.env := by rfl) : DE X E (.Call (.Name "sorted" p) [e] [] pos) (eCall (aCons f aNil) (on1 (asortD mkLst))) :=
  de_callB (cr_sortA C.hu67) (asort_run fun ok r q => fin_lst ok r q) hm (by decide +kernel) (da_cons ha da_nil he) hg (by decide) (by decide) he
theorem de_sortedAL (C : Ctl X E k) (hm : X.mg "sorted" = none) (ha : DE X E e f) (hg : Gl X "sorted" := by rfl) (he : starEach [e] X.env = (false, eval e X.env) :: starEach [] X.env := by rfl) : DE X E (.Call (.Name "sorted" p) [e] [] pos) (eCall (aCons f aNil) (on1 (asortD mkLoc))) :=
  de_callB (cr_sortA C.hu67) (asort_run fun ok r q => fin_loc ok r q) hm (by decide +kernel) (da_cons ha da_nil he) hg (by decide) (by decide) he
end
end DL

namespace DL
open PySem PySem.Spec PyProof.Rows L2
/-! ## dicts whose keys are nested tuples of ints -/
mutual
inductive NKey (H : Hp) : V → NestedKey → Prop
  | int (i : Int) : NKey H (.int i) (.num i)
  | tup {b : Addr} {xs : List V} {ks : List NestedKey} : H b = some (.tup xs) → NKeys H xs ks → NKey H (.ref b) (.tup ks)
inductive NKeys (H : Hp) : List V → List NestedKey → Prop
  | nil : NKeys H [] []
  | cons {x : V} {xs : List V} {k : NestedKey} {ks : List NestedKey} : NKey H x k → NKeys H xs ks → NKeys H (x :: xs) (k :: ks)
end
mutual
theorem NKey.ext {H H' : Hp} (h : ∀ b xs, H b = some (.tup xs) → H' b = some (.tup xs)) : ∀ {x : V} {k : NestedKey}, NKey H x k → NKey H' x k
  | _, _, .int i => .int i
  | _, _, .tup e r => .tup (h _ _ e) (NKeys.ext h r)
theorem NKeys.ext {H H' : Hp} (h : ∀ b xs, H b = some (.tup xs) → H' b = some (.tup xs)) : ∀ {x : List V} {k : List NestedKey}, NKeys H x k → NKeys H' x k
  | _, _, .nil => .nil
  | _, _, .cons a b => .cons (NKey.ext h a) (NKeys.ext h b)
end
mutual
theorem rep_nk {K : PySem.W.Frag} {w : Wd} (ok : w.Ok K) : ∀ (d : D) (v : V) (k : NestedKey), w.rep K d v → nkD d = some k → NKey w.H v k
  | .int i, _, _, .int _, h => by
    rw [nkD] at h
    cases h
    exact .int i
  | .tup ds, _, _, .tup e r, h => by
    rw [nkD] at h
    obtain ⟨ks, h1, rfl⟩ := Option.map_eq_some_iff.mp h
    exact .tup (ok.fr _ _ e) (rep_nks ok ds _ ks r h1)
  | .non, _, _, _, h => by simp [nkD] at h
  | .bl _, _, _, _, h => by simp [nkD] at h
  | .str _, _, _, _, h => by simp [nkD] at h
  | .lst _, _, _, _, h => by simp [nkD] at h
  | .fz _, _, _, _, h => by simp [nkD] at h
  | .loc _, _, _, _, h => by simp [nkD] at h
theorem rep_nks {K : PySem.W.Frag} {w : Wd} (ok : w.Ok K) : ∀ (ds : List D) (vs : List V) (ks : List NestedKey), w.repL K ds vs → nkDs ds = some ks → NKeys w.H vs ks
  | [], _, _, .nil, h => by
    rw [nkDs] at h
    cases h
    exact .nil
  | d :: ds, _, _, .cons a b, h => by
    rw [nkDs] at h
    split at h
    · rename_i k ks h1 h2
      cases h
      exact .cons (rep_nk ok d _ k a h1) (rep_nks ok ds _ ks b h2)
    · cases h
end
section
variable {X : Cx} {pins : List (Addr × Obj)} {σ : L2.St} {H : Hp} {s : Shared}
mutual
theorem NKey.is (I : Inv X pins σ H s) : ∀ {x : V} {k : NestedKey} {u : Value}, NKey H x k → RelV x u → NestedIs s.heap k u
  | _, _, _, .int i, r => by
    obtain ⟨t, rfl⟩ := r
    exact .int i t
  | _, _, _, .tup e ks, r => by
    cases r
    obtain ⟨its, rv, ⟨o, ho, hc, n, hd⟩, hz⟩ := I.tuple (SqT.of e)
    exact .tup ho hc hd (by simpa using NKeys.is I ks rv)
theorem NKeys.is (I : Inv X pins σ H s) : ∀ {xs : List V} {ks : List NestedKey} {us : List Value}, NKeys H xs ks → Vals xs us → NestedAll s.heap ks us
  | _, _, _, .nil, r => by cases r; exact .nil
  | _, _, _, .cons a b, r => by
    cases r with
    | cons ra rb => exact .cons (NKey.is I a ra) (NKeys.is I b rb)
end
mutual
theorem NKey.hash {w w' : World} : ∀ {x : V} {k : NestedKey}, NKey H x k → k.hash w = k.hash w'
  | _, _, .int i => by simp only [NestedKey.hash]
  | _, _, .tup e r => by simp only [NestedKey.hash]; rw [NKeys.hashes (w := w) (w' := w') r]
theorem NKeys.hashes {w w' : World} : ∀ {xs : List V} {ks : List NestedKey}, NKeys H xs ks → NestedKey.hashes w ks = NestedKey.hashes w' ks
  | _, _, .nil => rfl
  | _, _, .cons a b => by simp only [NestedKey.hashes]; rw [NKey.hash (w := w) (w' := w') a, NKeys.hashes (w := w) (w' := w') b]
end
abbrev NP3 (p : NEnt) (q : NestedKey × Addr × Value) : Prop := p.1 = q.1 ∧ p.2.1 = q.2.1 ∧ RelV p.2.2 q.2.2
def NDat (H : Hp) (a : Addr) (ks : List NEnt) : Prop := Rd H a (NDO a ks) ∧ ∀ p ∈ ks, NKey H (.ref p.2.1) p.1 ∧ p.1.depth ≤ 8
def ndV (ks : List NEnt) (k : NestedKey) : Option V := (ks.find? fun p => decide (p.1 = k)).map (·.2.2)
def ndP (ks : List NEnt) (k : NestedKey) (b : Addr) (v : V) : List NEnt := if (ndV ks k).isSome = true then ks.map (fun p => if p.1 = k then (p.1, p.2.1, v) else p) else ks ++ [(k, b, v)]
theorem np_mem {ks : List NEnt} {xs : List (NestedKey × Addr × Value)} (r : Paired NP3 ks xs) : ∀ x ∈ xs, ∃ p ∈ ks, NP3 p x := by
  induction r with
  | nil => intro x hx; cases hx
  | cons h t ih =>
    intro x hx
    rcases List.mem_cons.mp hx with e | e
    · rw [e]; exact ⟨_, List.mem_cons_self, h⟩
    · obtain ⟨p, hp, q⟩ := ih x e
      exact ⟨p, List.mem_cons_of_mem _ hp, q⟩
theorem np_len {ks : List NEnt} {xs : List (NestedKey × Addr × Value)} (r : Paired NP3 ks xs) : ks.length = xs.length := by
  induction r with
  | nil => rfl
  | cons h t ih => rw [List.length_cons, List.length_cons, ih]
theorem np_val (k : NestedKey) {ks : List NEnt} {xs : List (NestedKey × Addr × Value)} (r : Paired NP3 ks xs) : (∀ v, ndV ks k = some v → ∃ p, atKey xs k = some p ∧ RelV v p.2) ∧ (ndV ks k = none → atKey xs k = none) := by
  induction r with
  | nil => exact ⟨fun v h => (by cases h), fun _ => rfl⟩
  | @cons p q ps qs h t ih =>
    obtain ⟨h1, h2, h3⟩ := h
    by_cases e : p.1 = k
    · have e1 : ndV (p :: ps) k = some p.2.2 := by unfold ndV; rw [List.find?_cons, decide_eq_true e]; rfl
      have e2 : atKey (q :: qs) k = some q.2 := by unfold atKey; rw [List.find?_cons, decide_eq_true (h1 ▸ e)]; rfl
      rw [e1, e2]
      exact ⟨fun v hv => ⟨_, rfl, Option.some.inj hv ▸ h3⟩, fun z => (by cases z)⟩
    · have e1 : ndV (p :: ps) k = ndV ps k := by unfold ndV; rw [List.find?_cons, decide_eq_false e]
      have e2 : atKey (q :: qs) k = atKey qs k := by unfold atKey; rw [List.find?_cons, decide_eq_false (fun z => e (h1.trans z))]
      rw [e1, e2]
      exact ih
theorem np_some {k : NestedKey} {ks : List NEnt} {xs : List (NestedKey × Addr × Value)} (r : Paired NP3 ks xs) : (atKey xs k).isSome = (ndV ks k).isSome := by
  obtain ⟨h1, h2⟩ := np_val k r
  cases q : ndV ks k with
  | none => rw [h2 q]; rfl
  | some v =>
    obtain ⟨p, hp, _⟩ := h1 v q
    rw [hp]; rfl
theorem np_put {k : NestedKey} {b : Addr} {v : V} {u : Value} (rv : RelV v u) {ks : List NEnt} {xs : List (NestedKey × Addr × Value)} (r : Paired NP3 ks xs) : Paired NP3 (ndP ks k b v) (storedH xs k b u) := by
  unfold ndP storedH
  rw [np_some r]
  split
  · rename_i hs
    clear hs
    induction r with
    | nil => exact .nil
    | @cons p q ps qs h t ih =>
      refine .cons ?_ ih
      obtain ⟨h1, h2, h3⟩ := h
      show NP3 (if p.1 = k then (p.1, p.2.1, v) else p) (if q.1 = k then (q.1, q.2.1, u) else q)
      by_cases e : p.1 = k
      · rw [if_pos e, if_pos (h1 ▸ e)]; exact ⟨h1, h2, rv⟩
      · rw [if_neg e, if_neg (fun z => e (h1.trans z))]; exact ⟨h1, h2, h3⟩
  · exact r.snoc ⟨rfl, rfl, rv⟩
theorem ndP_len (ks : List NEnt) (k : NestedKey) (b : Addr) (v : V) : (ndP ks k b v).length ≤ ks.length + 1 := by
  unfold ndP
  split
  · rw [List.length_map]; omega
  · rw [List.length_append]; exact Nat.le_refl _
theorem ndat_dict {a : Addr} {ks : List NEnt} (I : Inv X pins σ H s) (g : NDat H a ks) : ∃ xs, Paired NP3 ks xs ∧ s.heap.DictOfH (nestedKind X.prog X.w) a xs ∧ (a == sysModules) = false ∧ xs.length ≤ sizeLine := by
  obtain ⟨rd, hk⟩ := g
  obtain ⟨⟨xs, r, ⟨o, es, ep, ho, hex, hd, he⟩, hn, hs, hl⟩, _, _⟩ := rd.ok I.hok
  refine ⟨xs, r, ⟨o, es, ep, ho, hex, hd, he X.w, fun x hx => ?_, hn⟩, hs, hl⟩
  obtain ⟨p, hp, h1, h2, _⟩ := np_mem r x hx
  obtain ⟨k1, k2⟩ := hk p hp
  rw [← h1, ← h2]
  exact ⟨k1.is I rfl, k2⟩
theorem nd_room {A : Around} (h : A.units + 65 < cLine) : (nestedKind X.prog X.w).room A.in1 := by
  show A.in1.units + 8 < cLine
  rw [Around.in1_units]; omega
/-- k in d, k not in d -/
def rNIn (b : Bool) : V → V → Hp → VK → Prop := fun x y H Q => ∃ p k a ks, x = .ref p ∧ y = .ref a ∧ NDat H a ks ∧ NKey H (.ref p) k ∧ k.depth ≤ 8 ∧ Q (.bl (cond b (!(ndV ks k).isSome) (ndV ks k).isSome)) H
theorem op_nin (hu : X.A.units + 65 < cLine) : OpR X (compareOp .In) (rNIn false) := by
  intro pins s σ H x y v u Q I rx ry h
  obtain ⟨p, k, a, ks, rfl, rfl, g, hk, hd, q⟩ := h
  cases rx
  cases ry
  obtain ⟨xs, r, dd, hs, hl⟩ := ndat_dict I g
  refine wpAny_in_heap (nd_room hu) ⟨hk.is I rfl, hd⟩ hs dd ?_
  rw [np_some r]
  exact ⟨.bl (ndV ks k).isSome, H, I.tok _, rfl, q⟩
theorem op_nnotin (hu : X.A.units + 65 < cLine) : OpR X (compareOp .NotIn) (rNIn true) := by
  intro pins s σ H x y v u Q I rx ry h
  obtain ⟨p, k, a, ks, rfl, rfl, g, hk, hd, q⟩ := h
  cases rx
  cases ry
  obtain ⟨xs, r, dd, hs, hl⟩ := ndat_dict I g
  refine wpAny_notIn_heap (nd_room hu) ⟨hk.is I rfl, hd⟩ hs dd ?_
  rw [np_some r]
  exact ⟨.bl (!(ndV ks k).isSome), H, I.tok _, rfl, q⟩
/-- d[k] -/
def tNGet (td ty : TE) : TE := fun σ H Q => td σ H fun x H1 => ty σ H1 fun y H2 => ∃ p k a ks v, y = .ref p ∧ x = .ref a ∧ NDat H2 a ks ∧ NKey H2 (.ref p) k ∧ k.depth ≤ 8 ∧ ndV ks k = some v ∧ Q v H2
theorem pe_nget {o i : Expr} {td ty : TE} {pos : Pos} (hu : X.A.units + 65 < cLine) (ho : PE X o td) (hi : PE X i ty) (hs : NoSl i) : PE X (.Subscript o i pos) (tNGet td ty) := by
  refine ⟨fun pins s σ H Q I h => ?_⟩
  refine subD_of PySem.F.slot_dict_getitem.lookup hs (thn (ho.run pins s σ H _ I h) fun u s1 ⟨x, H1, I1, rx, q1⟩ => thn (hi.run pins s1 σ H1 _ I1 q1) fun iv s2 ⟨y, H2, I2, ry, p, k, a, ks, v, ey, ex, g, hk, hd, hv, q2⟩ => ?_)
  subst ex ey
  cases rx
  cases ry
  obtain ⟨xs, r, dd, hs, hl⟩ := ndat_dict I2 g
  obtain ⟨p, hp, rv⟩ := (np_val k r).1 v hv
  exact ⟨dd.typeIs, wpAny_getItem_heap (nd_room hu) ⟨hk.is I2 rfl, hd⟩ dd hp ⟨v, H2, I2.tok _, rv, q2⟩⟩
/-- d.get(k) -/
def tNGt (td : TE) (ty : TA) : TE := fun σ H Q => td σ H fun x H1 => (∃ a ks, x = .ref a ∧ NDat H1 a ks) ∧ ty σ H1 fun ys H2 => ∃ p k a ks, ys = [.ref p] ∧ x = .ref a ∧ NDat H2 a ks ∧ NKey H2 (.ref p) k ∧ k.depth ≤ 8 ∧ Q ((ndV ks k).getD .non) H2
theorem pe_ngt {o e : Expr} {td : TE} {ty : TA} {apos cpos : Pos} (hu : X.A.units + 65 < cLine) (ho : PE X o td) (ha : PA X [e] ty) (hs : starEach [e] X.env = (false, eval e X.env) :: starEach [] X.env := by rfl)
    (hbase : attributeBase o "get" X.env (eval o X.env) = eval o X.env := by rfl)
    (hfew : ((backTo cpos (starEach [e] X.env)).all (fun x => !x.1) && (backToKw cpos (keywordEach [] X.env)).all (fun x => x.1.isSome)
      && decide (([e] : List Expr).length + ([] : List Keyword).length + (if ([] : List Keyword).isEmpty then 0 else 1) < 30)) = true := by rfl)
    (hline : (apos.endLine == cpos.line) = true := by rfl) : PE X (.Call (.Attribute o "get" apos) [e] [] cpos) (tNGt td ty) := by
  refine ⟨fun pins s σ H Q I h => ?_⟩
  refine wpAny_Call_method_late hbase hfew hline rfl (thn (ho.run pins s σ H _ I h) fun v s1 ⟨x, H1, I1, r1, ⟨a, ks, ex, g⟩, q1⟩ => ?_)
  subst ex
  cases r1
  obtain ⟨xs, r, dd, hsm, hl⟩ := ndat_dict I1 g
  have dd' := dd
  obtain ⟨ob, _, _, h1, h2, _⟩ := dd'
  refine ⟨"dict", "dict.get", PySem.F.plainAttrs_dict, PySem.F.slot_dict_get, PySem.F.type_dict_get, dd.typeIs, fun b e => ?_, ?_⟩
  · cases e
    exact ⟨ob, h1, h2.2.1⟩
  have hA := ha.run cpos pins s1 σ H1 _ I1 q1
  rw [hs] at hA ⊢
  refine Calls.callWith_builtin (by rfl) (Calls.evalArgs_plain ?_)
  refine thn hA fun us s2 ⟨vs, H2, I2, r2, p, k, a2, ks2, ev, e2, g2, hk, hd, q2⟩ => ?_
  subst ev
  cases e2
  obtain ⟨u, rfl, ru⟩ := r2.one
  cases ru
  obtain ⟨xs2, rr, dd2, hs2, hl2⟩ := ndat_dict I2 g2
  refine get_keyed (nd_room hu) ⟨hk.is I2 rfl, hd⟩ hs2 ⟨xs2, dd2, rfl⟩ ?_
  rw [valueAt_pairsH]
  refine ⟨_, H2, I2.tok _, ?_, q2⟩
  obtain ⟨w1, w2⟩ := np_val k rr
  cases q : ndV ks2 k with
  | none => rw [w2 q]; exact rfl
  | some v =>
    obtain ⟨p, hp, rv⟩ := w1 v q
    rw [hp]; exact rv
/-- d[k] = v -/
def sNPut (td ty tv : TE) : TS := fun D σ H => tv σ H fun v H1 => td σ H1 fun x H2 => ty σ H2 fun y H3 => ∃ p k a ks, y = .ref p ∧ x = .ref a ∧ H3 a = some (NDO a ks) ∧ (∀ p ∈ ks, NKey H3 (.ref p.2.1) p.1 ∧ p.1.depth ≤ 8) ∧ NKey H3 (.ref p) k ∧ k.depth ≤ 8 ∧ ks.length < sizeLine ∧ D.nx σ (upd H3 a (NDO a (ndP ks k p v)))
theorem ndo_new {P : Program} {w : World} {H' : Hp} {h' : Heap} {a : Addr} {ks : List NEnt} {xs : List (NestedKey × Addr × Value)} (r : Paired NP3 ks xs) (dd : h'.DictOfH (nestedKind P w) a xs) (hs : (a == sysModules) = false) (hl : xs.length ≤ sizeLine)
    (hh : ∀ x ∈ xs, ∀ w' : World, x.1.hash w = x.1.hash w') : ObjOk P w H' h' a (NDO a ks) := by
  obtain ⟨o, es, ep, ho, hex, hd, he, _, hn⟩ := dd
  refine ⟨⟨xs, r, ⟨o, es, ep, ho, hex, hd, fun w' => ?_⟩, hn, hs, hl⟩, ⟨o, ho⟩, fun h1 h2 ⟨xs, r, ⟨o, es, ep, ho, z⟩, y⟩ k => ⟨xs, r, ⟨o, es, ep, k _ ho, z⟩, y⟩⟩
  rw [he]
  refine List.map_congr_left fun x hx => ?_
  show (⟨x.1.hash w, _, _⟩ : DictEntry) = ⟨x.1.hash w', _, _⟩
  rw [hh x hx w']
theorem ps_nput {o i value : Expr} {td ty tv : TE} {pos pos' : Pos} (hu : X.A.units + 65 < cLine) (ho : PE X o td) (hi : PE X i ty) (hv : PE X value tv) (hs : swapsWith value (some (.Subscript o i pos')) pos.line X.env = pure false) :
    PS X (.Assign [.Subscript o i pos'] value pos) (sNPut td ty tv) := by
  refine ⟨fun pins s σ H D I h => ?_⟩
  refine wpAny_Assign_Subscript (thn (hv.run pins s σ H _ I h) fun r s1 ⟨v, H1, I1, rv, q1⟩ => thn (ho.run pins s1 σ H1 _ I1 q1) fun u s2 ⟨x, H2, I2, rx, q2⟩ => thn (hi.run pins s2 σ H2 _ I2 q2) fun iv s3 ⟨y, H3, I3, ry, p, k, a, ks, ey, ex, hH, hks, hk, hd, hl, q3⟩ => ?_) hs
  subst ex ey
  cases rx
  cases ry
  obtain ⟨xs, rr, dd, hsm, hl2⟩ := ndat_dict I3 ⟨.inl hH, hks⟩
  have hlx : xs.length + 1 ≤ sizeLine := by rw [← np_len rr]; exact hl
  refine wpAny_setItem_heap (hsz := hl2) (nd_room hu) ⟨hk.is I3 rfl, hd⟩ dd fun h' dd' sb => ?_
  have he : ∃ q, h'.get? a = some q := let ⟨q, _, _, hq, _⟩ := dd'; ⟨q, hq⟩
  have rp := np_put (k := k) (b := p) rv rr
  have hhash : ∀ x ∈ storedH xs k p r, ∀ w' : World, x.1.hash X.w = x.1.hash w' := fun x hx w' => by
    obtain ⟨e, he', h1, _, _⟩ := np_mem rp x hx
    rw [← h1]
    unfold ndP at he'
    split at he'
    · obtain ⟨e0, he0, rfl⟩ := List.mem_map.mp he'
      have := (hks e0 he0).1.hash (w := X.w) (w' := w')
      split <;> exact this
    · rcases List.mem_append.mp he' with z | z
      · exact (hks e z).1.hash
      · rw [List.mem_singleton.mp z]; exact hk.hash
  have hlen : (storedH xs k p r).length ≤ sizeLine := by
    rw [← np_len rp]
    have := ndP_len ks k p v
    omega
  exact ⟨σ, _, d_write I3 (by rw [hH]; exact True.intro) sb he (ndo_new rp dd' hsm hlen hhash), q3⟩
end
end DL
namespace DL
open PySem PySem.Spec PyProof.Rows L2
/-! ### {k: v}, d walked, sorted(d): the heap -/
section
variable {X : Cx} {pins : List (Addr × Obj)} {σ : L2.St} {H : Hp} {s : Shared}
theorem ndo_empty (P : Program) (w : World) {H' : Hp} (h : Heap) (hs : (h.objs.size == sysModules) = false) : ObjOk P w H' (h.push { cls := .type "dict", data := .dict #[] }) h.objs.size (NDO h.objs.size []) :=
  ndo_new (P := P) (w := w) .nil (Heap.DictOfH.new h) hs (Nat.zero_le _) fun _ hx => (by cases hx)
def tDisp1 (tk tv : TE) : TE := fun σ H Q => ∀ p, H p = none → tk σ (upd H p (NDO p [])) fun x H1 => tv σ H1 fun y H2 => H2 p = some (NDO p []) ∧ ∃ b k, x = .ref b ∧ NKey H2 (.ref b) k ∧ k.depth ≤ 8 ∧ Q (.ref p) (upd H2 p (NDO p [(k, b, y)]))
theorem pe_disp1 {k v : Expr} {tk tv : TE} {pos : Pos} (hu : X.A.units + 65 < cLine) (hk : PE X k tk) (hv : PE X v tv) : PE X (.Dict [some k] [v] pos) (tDisp1 tk tv) := by
  refine ⟨fun pins s σ H Q I h => ?_⟩
  have hn := I.hok.fresh (Nat.le_refl s.heap.objs.size)
  have hsys : (s.heap.objs.size == sysModules) = false := by
    have := I.big
    rw [beq_eq_false_iff_ne]
    exact Nat.ne_of_gt this
  have I1 := I.laid (a := s.heap.objs.size) (o := NDO s.heap.objs.size []) (h' := s.heap.push { cls := .type "dict", data := .dict #[] }) (t' := s.toks) (fun _ _ q => Heap.get?_push_of_some _ q) (Nat.le_refl _) (ndo_empty _ _ _ hsys)
  rw [arm_eval_Dict, show (evalEachOpt [some k] X.env).zip ((evalEach [v] X.env).map fun v => do let x ← v; standAt pos; pure x) = ([(eval k X.env, do let x ← eval v X.env; standAt pos; pure x)] : List (Sem Value × Sem Value)).map (fun p => (some p.1, p.2)) from rfl,
    dictDisplay_pairs _ (by simp) (by simp)]
  refine wpAny_bind (wpAny_standAt (wpAny_bind ?_))
  refine wpAny_subDictH (knd := nestedKind X.prog X.w) (Q := fun d s' => wpAny (model X.prog X.w) X.A (pure (Value.ref d)) (EP X pins σ Q) X.xe s') (by show X.A.units + 8 < cLine; omega) (by simp) ?_
  refine pairTrees_cons_walk (ks := []) (vs := []) (thn (hk.run pins _ σ _ _ I1 (h _ hn)) fun u s1 ⟨x, H1, I2, rx, q1⟩ => thn (hv.run pins s1 σ H1 _ I2 q1) fun u2 s2 ⟨y, H2, I3, ry, hp, b, kk, ex, hkk, hd, q2⟩ => ?_)
  subst ex
  cases rx
  refine pairTrees_nil_walk ?_
  obtain ⟨xs, rr, dd, hs, hl⟩ := ndat_dict I3 ⟨.inl hp, fun p hp => (by cases hp)⟩
  cases rr
  refine ⟨[(kk, b, u2)], ⟨rfl, rfl, ⟨hkk.is I3 rfl, hd⟩, True.intro⟩, dd, fun h' tk dd' sb => wpAny_pure ?_⟩
  have he : ∃ q, h'.get? s.heap.objs.size = some q := let ⟨q, _, _, hq, _⟩ := dd'; ⟨q, hq⟩
  have r1 : Paired NP3 [(kk, b, y)] [(kk, b, u2)] := .cons ⟨rfl, rfl, ry⟩ .nil
  exact ⟨.ref s.heap.objs.size, _, d_write I3 (by rw [hp]; exact True.intro) sb he (ndo_new r1 dd' hsys (by show 1 ≤ sizeLine; decide) fun x hx w' => by rw [List.mem_singleton.mp hx]; exact hkk.hash), rfl, q2⟩
/-! iteration -/
theorem frz_nd {a : Addr} {o : Obj} {ks : List NEnt} (I : Inv X pins σ H s) (h : H a = some (.frz o (NDO a ks))) : ∃ es ep, s.heap.get? a = some o ∧ (a == sysModules) = false ∧ o.ExactDict ∧ o.data = .dict es ep ∧ es.size = ks.length ∧
    ∀ (i : Nat) (p : NEnt), ks[i]? = some p → ∃ en, es[i]? = some en ∧ en.key = .ref p.2.1 := by
  obtain ⟨h1, ⟨xs, r, ⟨o', es, ep, ho, hex, hd, he⟩, hn, hs, hl⟩, _⟩ := (show ObjOk X.prog X.w H s.heap a (.frz o (NDO a ks)) from I.hok a _ h)
  rw [h1] at ho
  cases ho
  have e0 := he X.w
  have esz : es.size = ks.length := by rw [np_len r, ← Array.length_toList, e0, List.length_map]
  refine ⟨es, ep, h1, hs, hex, hd, esz, fun i p hp => ?_⟩
  have get : ∀ {ks : List NEnt} {xs : List (NestedKey × Addr × Value)}, Paired NP3 ks xs → ∀ (i : Nat) (p : NEnt), ks[i]? = some p → ∃ x, xs[i]? = some x ∧ NP3 p x := fun {ks xs} r => by
    induction r with
    | nil => intro i p h; simp at h
    | cons h t ih =>
      intro i p hp
      cases i with
      | zero => simp at hp; subst hp; exact ⟨_, rfl, h⟩
      | succ i => exact ih i p (by simpa using hp)
  obtain ⟨x, hx, _, h2, _⟩ := get r i p hp
  refine ⟨⟨x.1.hash X.w, .ref x.2.1, x.2.2⟩, ?_, by rw [h2]⟩
  rw [← Array.getElem?_toList, e0, List.getElem?_map, hx]; rfl
def IteN (a : Addr) (o : Obj) (ks : List NEnt) : It :=
  ⟨fun i H => H a = some (.frz o (NDO a ks)) ∧ i < ks.length, fun i H v H' => H' = H ∧ ∃ p, ks[i]? = some p ∧ v = .ref p.2.1, fun i H => H a = some (.frz o (NDO a ks)) ∧ ks.length ≤ i⟩
theorem turn_nd {P : Program} {w : World} {K : PySem.W.Frag} {tg : Expr} {a : Addr} {o : Obj} {ks : List NEnt} {es : Array DictEntry} {ep : Nat} (it : Addr) (hod : o.data = .dict es ep) : Turn P w K tg (IteN a o ks) [it] it (fun i h => h.IsKeyIter it a i ks.length ep) where
  mem := by simp
  obj := fun i h st b hb => by
    have e : b = it := by simpa using hb
    subst e
    obtain ⟨oi, e, c, dd⟩ := st
    exact ⟨oi, e, fun v z => by rw [dd] at z; cases z⟩
  keep := fun i h h' st k => st.at fun oi e => k it (by simp) oi e
  item := by
    intro X hP hw hK hc i pins s σ H E I hf st hg
    subst hP hw hK
    obtain ⟨hd, hi⟩ := hg
    obtain ⟨f0, f1, f2, f3, f4, f5⟩ := hf it (by simp)
    obtain ⟨es', ep', h1, hgd, hx, hdt, hsz, ent⟩ := frz_nd I hd
    obtain ⟨rfl, rfl⟩ := dict_ep hod hdt
    have hp : ks[i]? = some ks[i] := List.getElem?_eq_getElem hi
    obtain ⟨en, hen, hkey⟩ := ent i _ hp
    have hs : s.heap.get? a = some o := h1
    refine next_key_item st h1 hdt hsz hen fun h' st' sb => ?_
    have I1 : Inv X pins σ H { s with heap := h' } := I.turned (t' := s.toks) (fun b ob hb e => (sb.2 b hb).trans e) f0 f1 f3 f4 f5
    obtain ⟨oi, e, c, dd⟩ := id st'
    exact ⟨en.key, rfl, go_of (s := { s with heap := h' }) e c dd (by decide) ⟨.ref ks[i].2.1, H, I1, hkey, ⟨rfl, _, hp, rfl⟩, st', fun b hb => (hf b hb).1⟩⟩
  done := by
    intro X hP hw hK hc i pins s σ H E I hf st hg
    subst hP hw hK
    obtain ⟨hd, hi⟩ := hg
    obtain ⟨f0, f1, f2, f3, f4, f5⟩ := hf it (by simp)
    obtain ⟨es', ep', h1, hgd, hx, hdt, hsz, ent⟩ := frz_nd I hd
    obtain ⟨rfl, rfl⟩ := dict_ep hod hdt
    exact next_key_end (I.ok.hd hc) st h1 hdt hsz hi fun h' eb => ⟨rfl, I.turned (t' := s.toks) (fun b ob hb e => eb b ob hb e) f0 f1 f3 f4 f5⟩
  self := fun A i s Q E st h => wpAny_pyIter_keyiter st h
theorem ndo_ne_frz {a : Addr} {ks : List NEnt} {o : Obj} {u : HO} : NDO a ks ≠ .frz o u := fun z => by unfold NDO at z; cases z
/-- the dict is known to its object from now on -/
theorem inv_frzN {a : Addr} {ks : List NEnt} (I : Inv X pins σ H s) (h : H a = some (NDO a ks)) : ∃ o, Inv X pins σ (upd H a (.frz o (NDO a ks))) s := by
  have ok := I.hok a _ h
  obtain ⟨φ, ⟨o, ho⟩, st⟩ := ok
  refine ⟨o, ?_⟩
  have hne : ∀ b, H b = none → b ≠ a := fun b e z => by rw [z, h] at e; cases e
  have un : Un X.fs [] H (upd H a (.frz o (NDO a ks))) s.heap s.heap := by
    refine ⟨fun b u e _ _ _ => e, fun b u e _ _ _ => ⟨u.slots, e⟩, fun b u e n _ => by rw [upd_ne (hne b n)]; exact n, fun b u e _ => ⟨u, e⟩, fun b xs e => ?_, fun b u x e => ?_, fun b ps e => ?_⟩
    · rw [upd_ne (fun z => by rw [z, h] at e; unfold NDO at e; cases e)]; exact e
    · rw [upd_ne (fun z => by rw [z, h] at e; exact ndo_ne_frz (Option.some.inj e))]; exact e
    · exact ⟨#[], by rw [upd_ne (fun z => by rw [z, h] at e; unfold NDO at e; cases e)]; simpa using e⟩
  have hok : HOk X.prog X.w (upd H a (.frz o (NDO a ks))) s.heap := fun b u e => by
    by_cases hb : b = a
    · subst hb
      rw [upd_same] at e
      cases e
      exact ⟨ho, φ, ⟨o, ho⟩, st⟩
    · rw [upd_ne hb] at e
      refine (I.hok b u e).stay (fun c v _ q => q) (fun c q => ?_) fun c xs q => ?_
      · rw [upd_ne (fun z => by rw [z, h] at q; unfold NDO at q; cases q)]; exact q
      · rw [upd_ne (fun z => by rw [z, h] at q; unfold NDO at q; cases q)]; exact q
  exact I.un (t' := s.toks) un hok
def iNd (td : TE) : TI := fun σ H R => td σ H fun x H1 => ∃ a ks, x = .ref a ∧ ((H1 a = some (NDO a ks) ∧ ∀ o, R (IteN a o ks) (upd H1 a (.frz o (NDO a ks)))) ∨ ∃ o, H1 a = some (.frz o (NDO a ks)) ∧ R (IteN a o ks) H1)
theorem pi_nd {tg e : Expr} {td : TE} (he : PE X e td) : PI X tg e (iNd td) := by
  refine ⟨fun pins s σ H R I h => ?_⟩
  refine thn (he.run pins s σ H _ I h) fun u s1 ⟨x, H1, I1, rx, a, ks, ex, q⟩ => ?_
  subst ex
  cases rx
  have go : ∀ (H2 : Hp) (o : Obj), Inv X pins σ H2 s1 → H2 a = some (.frz o (NDO a ks)) → R (IteN a o ks) H2 → wpAny (model X.prog X.w) X.A (pyIter (.ref a)) (PIE X pins σ tg R) X.xe s1 := fun H2 o I2 hd q => by
    obtain ⟨es, ep, h1, hgd, hx, hdt, hsz, ent⟩ := frz_nd I2 hd
    refine iter_keys hgd h1 hx hdt (pi_one (tk := s1.toks) I2 _ (turn_nd _ hdt) ⟨_, Heap.get?_push_size _ rfl, rfl, ?_⟩ q)
    rw [hsz] <;> rfl
  rcases q with ⟨hd, q⟩ | ⟨o, hd, q⟩
  · obtain ⟨o, I2⟩ := inv_frzN I1 hd
    exact go _ o I2 upd_same (q o)
  · exact go H1 o I1 hd q
/-! sorted(d) -/
open PySem.W in
theorem raw_src {prog : Program} {w : World} {d : Addr} {es : Array DictEntry} {ep : Nat} (lo : (d == sysModules) = false) : KdlSrc prog w "dict" d d es.size (fun i v => ∃ hi : i < es.size, v = es[i].key) (fun h => h.DictRaw d es ep) where
  type := fun _ hm => hm.typeIs
  there := fun _ ⟨_, ho, _⟩ => ⟨Heap.lt_size ho, Heap.lt_size ho⟩
  keep := fun _ _ hm hk => hm.at fun o e => hk d (.inl rfl) o e
  notList := by decide
  notTuple := by decide
  hint := fun _ _ _ _ hm hq => kdl_hint_dict hm.typeIs hq
  iter := fun _ s hh hm => ⟨_, _, (fun _ _ hq => wpAny_pyIter_dict_raw lo hm hq), Walks.rawKeys hh _ d (let ⟨_, ho, _⟩ := hm; Nat.ne_of_lt (Heap.lt_size ho)) es ep, ⟨⟨_, Heap.get?_push_size _ rfl, rfl, rfl⟩, hm.at fun o e => Heap.get?_push_of_some _ e⟩⟩
mutual
theorem NKey.reads (I : Inv X pins σ H s) : ∀ {x : V} {k : NestedKey} {u : Value}, NKey H x k → RelV x u → Reads s.heap u k.data []
  | _, _, _, .int i, r => by
    obtain ⟨t, rfl⟩ := r
    exact .int i t
  | _, _, _, .tup e ks, r => by
    cases r
    obtain ⟨its, rv, ⟨o, ho, hc, n, hd⟩, hz⟩ := I.tuple (SqT.of e)
    exact .tuple ho hc hd (by simpa using NKeys.reads I ks rv)
theorem NKeys.reads (I : Inv X pins σ H s) : ∀ {xs : List V} {ks : List NestedKey} {us : List Value}, NKeys H xs ks → Vals xs us → ReadsAll s.heap us (NestedKey.datas ks) []
  | _, _, _, .nil, r => by cases r; exact .nil
  | _, _, _, .cons a b, r => by
    cases r with
    | cons ra rb => exact .cons (as := []) (bs := []) (NKey.reads I a ra) (NKeys.reads I b rb)
end
def nle (p q : NEnt) : Bool := !PySem.W.dataLt q.1.data p.1.data
def nokD (ds : List PyData) : Prop := PySem.W.AllAlike ds ∧ PySem.W.Sortable ds ∧ ∀ d ∈ ds, d.depth ≤ 8
def rSortN : List V → Hp → VK → Prop := fun vs H Q => ∃ a ks, vs = [V.ref a] ∧ NDat H a ks ∧ nokD (ks.map fun p => p.1.data) ∧ ∀ p, H p = none → Q (.ref p) (upd H p (.lst ((ks.mergeSort nle).map fun p => V.ref p.2.1)))
open PySem.W in
theorem cr_sortN (hcalm : X.calm = true) (hu : X.A.units + 67 < cLine) : CallR X (.builtin "sorted") rSortN := by
  intro pins s σ H vs us Q I r h
  obtain ⟨a, ks, rfl, g, ⟨hal, hso, hdep⟩, q⟩ := h
  rw [Vals.ref1 r]
  obtain ⟨xs, rr, dd, hs, hl⟩ := ndat_dict I g
  obtain ⟨es, ep, raw, esz, ent⟩ := dd.raw
  have hn : es.size ≤ sizeLine := by rw [esz]; exact hl
  refine Calls.call_function_entry PyProof.Rows.kind_sorted PyProof.Rows.plain_sorted PyProof.Rows.entry_sorted (PyProof.Rows.args_sorted1 _) ?_
  unfold Builtin.«sorted»
  refine wpAny_bind (m := checkCount "sorted" 1 1 _) (wpAny_pure ?_)
  refine wpAny_bind (kdu_collect (A := X.A.in1) (raw_src (ep := ep) hs) (I.ok.hd hcalm) raw hn fun h' tk acc hk hacc => ?_)
  have hlen : acc.toList.length = ks.length := by rw [Array.length_toList, hacc.1, esz, np_len rr]
  have I1 : Inv X pins σ H { s with heap := h', toks := tk } := I.kept (t' := tk) hk
  have at_ : ∀ (i : Nat) (p : NEnt), ks[i]? = some p → acc.toList[i]? = some (.ref p.2.1) := fun i p hp => by
    have hil := (List.getElem?_eq_some_iff.mp hp).1
    have hia : i < acc.toList.length := by rw [hlen]; exact hil
    have e1 : acc.toList[i]? = some acc.toList[i] := List.getElem?_eq_getElem hia
    obtain ⟨hi, e2⟩ := hacc.2 i acc.toList[i] (by rw [← Array.getElem?_toList]; exact e1)
    obtain ⟨y, hy, e3, _⟩ := ent i hi
    have get : ∀ {ks : List NEnt} {xs : List (NestedKey × Addr × Value)}, Paired NP3 ks xs → ∀ (i : Nat) (p : NEnt) (x : NestedKey × Addr × Value), ks[i]? = some p → xs[i]? = some x → NP3 p x := fun {ks xs} r => by
      induction r with
      | nil => intro i p x h; simp at h
      | cons h t ih =>
        intro i p x hp hx
        cases i with
        | zero => simp at hp hx; subst hp hx; exact h
        | succ i => exact ih i p x (by simpa using hp) (by simpa using hx)
    obtain ⟨_, h2, _⟩ := get rr i p y hp hy
    rw [e1, e2, e3, h2]
  have key : ∀ {ks : List NEnt} {us : List Value}, us.length = ks.length → (∀ (i : Nat) (p : NEnt), ks[i]? = some p → us[i]? = some (.ref p.2.1)) → EachIs (fun u (p : NEnt) => u = .ref p.2.1) us ks := fun {ks} => by
    induction ks with
    | nil => intro us hl _; rw [List.length_eq_zero_iff.mp hl]; exact .nil
    | cons p ks ih =>
      intro us hl h
      match us, hl, h with
      | u :: us, hl, h =>
        have h0 := h 0 p rfl
        simp at h0
        exact .cons h0 (ih (by simpa using hl) fun i p hp => by simpa using h (i + 1) p (by simpa using hp))
  have ev := key hlen at_
  refine wpAny_bind (wpAny_newList ?_ (by rw [hlen, np_len rr]; exact hl))
  have hoL : (h'.push (seqObj "list" acc.toList.toArray 0)).get? h'.objs.size = some (seqObj "list" acc.toList.toArray 0) := Heap.get?_push_size _ rfl
  have I2 : Inv X pins σ H { s with heap := h'.push (seqObj "list" acc.toList.toArray 0), toks := tk } := I1.kept (t' := tk) fun b o e => Heap.get?_push_of_some _ e
  refine wpAny_bind (wpAny_holding (list_sort_data (s := { s with heap := h'.push (seqObj "list" acc.toList.toArray 0), toks := tk }) (enc := fun p : NEnt => p.1.data) hoL ev ((each_mem ev).mono fun u p ⟨e, hp⟩ => ⟨[], by rw [e]; exact (g.2 p hp).1.reads I2 rfl, by simp⟩) hal hso (by rw [np_len rr]; exact hl) (fun p hp => ?_) fun out ho eo => ?_))
  · have := hdep _ (List.mem_map_of_mem (f := fun p : NEnt => p.1.data) hp)
    show X.A.in1.units + 1 + _ < _
    rw [Around.in1_units]; omega
  · obtain ⟨e', he'⟩ := PyProof.Rows.sortedHeap_at (vs := acc.toList) (out := out.toArray) hoL
    have eo' : EachIs (fun u (p : NEnt) => u = .ref p.2.1) out (ks.mergeSort nle) := eo
    have hv : ∀ {out : List Value} {zs : List NEnt}, EachIs (fun u (p : NEnt) => u = .ref p.2.1) out zs → Vals (zs.map fun p => V.ref p.2.1) out := fun {out zs} e => by
      induction e with
      | nil => exact .nil
      | cons h t ih => exact .cons h ih
    have hl2 : ((ks.mergeSort nle).map fun p => V.ref p.2.1).length ≤ sizeLine := by rw [List.length_map, List.length_mergeSort, np_len rr]; exact hl
    refine wpAny_pure ⟨_, rfl, .ref h'.objs.size, upd H h'.objs.size (.lst ((ks.mergeSort nle).map fun p => V.ref p.2.1)), I1.laid (t' := tk) (fun b u e => ?_) (Nat.le_refl _)
      (show ObjOk X.prog X.w _ _ _ (.lst _) from ⟨hl2, out, e', hv eo', he'⟩), rfl, q _ (I1.hok.fresh (Nat.le_refl _))⟩
    have hb : b < h'.objs.size := Heap.lt_size e
    rw [PyProof.Rows.sortedHeap_old (Nat.ne_of_lt hb) (by rw [size_push']; exact Nat.lt_succ_of_lt hb)]
    exact Heap.get?_push_of_some _ e
end
end DL
namespace DL
open PySem PySem.Spec PyProof.Rows L2
/-! ### the same at the level of data -/
def ndAt (s : Sto) : D → Option (List (D × D))
  | .loc n => match s[n]? with | some (some (.nd kvs)) => some kvs | some (some (.fnd kvs)) => some kvs | _ => none
  | _ => none
def ndVal (kvs : List (D × D)) (k : NestedKey) : Option D := (kvs.find? fun p => decide (nkD p.1 = some k)).map (·.2)
def ndPut (kvs : List (D × D)) (k : NestedKey) (d v : D) : List (D × D) := if (ndVal kvs k).isSome = true then kvs.map (fun p => if nkD p.1 = some k then (p.1, v) else p) else kvs ++ [(d, v)]
def nk8 (d : D) : Option NestedKey := match nkD d with | some k => if k.depth ≤ 8 then some k else none | none => none
theorem nk8_of {d : D} {k : NestedKey} (h : nk8 d = some k) : nkD d = some k ∧ k.depth ≤ 8 := by
  unfold nk8 at h
  split at h
  · rename_i k' hk
    split at h
    · cases h; rename_i h8; exact ⟨hk, h8⟩
    · cases h
  · cases h
section
variable {K : PySem.W.Frag} {mg : Str → Option Value} {E : XK} {w : Wd} {I : Hp} {L : List Addr}
theorem nk_ref {d : D} {v : V} {ks : List NestedKey} (r : w.rep K d v) (h : nkD d = some (.tup ks)) : ∃ b, v = .ref b := by
  cases r with
  | tup e r => exact ⟨_, rfl⟩
  | int i => simp [nkD] at h
  | _ => simp [nkD] at h
theorem nd_at (ok : w.Ok K) {d : D} {v : V} {kvs : List (D × D)} (r : w.rep K d v) (h : ndAt w.s d = some kvs) : ∃ (a : Addr) (ks : List NEnt), v = .ref a ∧ Rd w.H a (NDO a ks) ∧ Paired (NdP K w.I w.L) kvs ks := by
  cases r with
  | loc e =>
    rename_i n a
    have h' : (match w.s[n]? with | some (some (.nd kvs)) => some kvs | some (some (.fnd kvs)) => some kvs | _ => none) = some kvs := h
    split at h'
    · rename_i kvs' hs
      cases h'
      obtain ⟨_, ks, hx, rr⟩ := ok.cell n a _ e hs
      exact ⟨a, ks, rfl, .inl hx, rr⟩
    · rename_i kvs' hs
      cases h'
      obtain ⟨_, o, ks, _, hx, rr⟩ := ok.cell n a _ e hs
      exact ⟨a, ks, rfl, .inr ⟨o, hx⟩, rr⟩
    · cases h'
  | _ => cases h
theorem ndp_keys (ok : w.Ok K) {kvs : List (D × D)} {ks : List NEnt} (r : Paired (NdP K w.I w.L) kvs ks) : ∀ p ∈ ks, NKey w.H (.ref p.2.1) p.1 ∧ p.1.depth ≤ 8 := by
  induction r with
  | nil => intro p hp; cases hp
  | @cons a b as bs h t ih =>
    intro p hp
    rcases List.mem_cons.mp hp with e | e
    · rw [e]; exact ⟨rep_nk ok _ _ _ h.2.2.1 h.1, h.2.1⟩
    · exact ih p e
theorem ndp_val (k : NestedKey) {kvs : List (D × D)} {ks : List NEnt} (r : Paired (NdP K I L) kvs ks) : (∀ d, ndVal kvs k = some d → ∃ v, ndV ks k = some v ∧ Rep K I L d v) ∧ (ndVal kvs k = none → ndV ks k = none) := by
  induction r with
  | nil => exact ⟨fun d h => (by cases h), fun _ => rfl⟩
  | @cons p q ps qs h t ih =>
    obtain ⟨h1, h2, h3, h4⟩ := h
    by_cases e : q.1 = k
    · have e1 : ndVal (p :: ps) k = some p.2 := by unfold ndVal; rw [List.find?_cons, decide_eq_true (h1.trans (congrArg some e))]; rfl
      have e2 : ndV (q :: qs) k = some q.2.2 := by unfold ndV; rw [List.find?_cons, decide_eq_true e]; rfl
      rw [e1, e2]
      exact ⟨fun d hd => ⟨_, rfl, Option.some.inj hd ▸ h4⟩, fun z => (by cases z)⟩
    · have e1 : ndVal (p :: ps) k = ndVal ps k := by unfold ndVal; rw [List.find?_cons, decide_eq_false (fun z => e (Option.some.inj (h1.symm.trans z)))]
      have e2 : ndV (q :: qs) k = ndV qs k := by unfold ndV; rw [List.find?_cons, decide_eq_false e]
      rw [e1, e2]
      exact ih
theorem ndp_some {k : NestedKey} {kvs : List (D × D)} {ks : List NEnt} (r : Paired (NdP K I L) kvs ks) : (ndV ks k).isSome = (ndVal kvs k).isSome := by
  obtain ⟨h1, h2⟩ := ndp_val k r
  cases q : ndVal kvs k with
  | none => rw [h2 q]; rfl
  | some v =>
    obtain ⟨p, hp, _⟩ := h1 v q
    rw [hp]; rfl
theorem ndp_put {k : NestedKey} {d v : D} {b : Addr} {u : V} (hk : nkD d = some k) (h8 : k.depth ≤ 8) (rd : Rep K I L d (.ref b)) (rv : Rep K I L v u) {kvs : List (D × D)} {ks : List NEnt} (r : Paired (NdP K I L) kvs ks) : Paired (NdP K I L) (ndPut kvs k d v) (ndP ks k b u) := by
  unfold ndPut ndP
  rw [ndp_some r]
  split
  · rename_i hs
    clear hs
    induction r with
    | nil => exact .nil
    | @cons p q ps qs h t ih =>
      refine .cons ?_ ih
      obtain ⟨h1, h2, h3, h4⟩ := h
      show NdP K I L (if nkD p.1 = some k then (p.1, v) else p) (if q.1 = k then (q.1, q.2.1, u) else q)
      by_cases e : q.1 = k
      · rw [if_pos e, if_pos (h1.trans (congrArg some e))]; exact ⟨h1, h2, h3, rv⟩
      · rw [if_neg e, if_neg (fun z => e (Option.some.inj (h1.symm.trans z)))]; exact ⟨h1, h2, h3, h4⟩
  · exact r.snoc ⟨hk, h8, rd, rv⟩
theorem ndp_len {kvs : List (D × D)} {ks : List NEnt} (r : Paired (NdP K I L) kvs ks) : kvs.length = ks.length := by
  induction r with
  | nil => rfl
  | cons h t ih => rw [List.length_cons, List.length_cons, ih]
theorem ndp_rep {kvs : List (D × D)} {ks : List NEnt} (r : Paired (NdP K I L) kvs ks) : RepL K I L (kvs.map (·.1)) (ks.map fun p => V.ref p.2.1) := by
  induction r with
  | nil => exact .nil
  | cons h t ih => exact .cons h.2.2.1 ih
mutual
theorem nk_depth : ∀ k : NestedKey, k.data.depth ≤ k.depth
  | .none => by simp [NestedKey.data, PyData.depth]
  | .num _ => by simp [NestedKey.data, PyData.depth]
  | .text _ => by simp [NestedKey.data, PyData.depth]
  | .tup ks => by
    show (PyData.tuple (NestedKey.datas ks)).depth ≤ _
    rw [PyData.depth, NestedKey.depth]
    have := nk_depths ks
    omega
theorem nk_depths : ∀ ks : List NestedKey, PyData.depthAll (NestedKey.datas ks) ≤ NestedKey.depthAll ks
  | [] => by simp [NestedKey.datas, PyData.depthAll]
  | k :: ks => by
    rw [NestedKey.datas, PyData.depthAll, NestedKey.depthAll]
    have := nk_depth k
    have := nk_depths ks
    omega
end
mutual
theorem nk_py : ∀ (d : D) (k : NestedKey), nkD d = some k → k.data = d.py
  | .int i, _, h => by
    rw [nkD] at h
    cases h
    rfl
  | .tup ds, _, h => by
    rw [nkD] at h
    obtain ⟨ks, h1, rfl⟩ := Option.map_eq_some_iff.mp h
    show PyData.tuple (NestedKey.datas ks) = .tuple (D.pys ds)
    rw [nk_pys ds ks h1]
  | .non, _, h => by simp [nkD] at h
  | .bl _, _, h => by simp [nkD] at h
  | .str _, _, h => by simp [nkD] at h
  | .lst _, _, h => by simp [nkD] at h
  | .fz _, _, h => by simp [nkD] at h
  | .loc _, _, h => by simp [nkD] at h
theorem nk_pys : ∀ (ds : List D) (ks : List NestedKey), nkDs ds = some ks → NestedKey.datas ks = D.pys ds
  | [], _, h => by
    rw [nkDs] at h
    cases h
    rfl
  | d :: ds, _, h => by
    rw [nkDs] at h
    split at h
    · rename_i k ks h1 h2
      cases h
      show k.data :: NestedKey.datas ks = d.py :: D.pys ds
      rw [nk_py d k h1, nk_pys ds ks h2]
    · cases h
end
/-- the dict is given up: it is not written any more -/
theorem Wd.Ok.frzN (k : w.Ok K) {n : Nat} {a : Addr} {kvs : List (D × D)} {ks : List NEnt} (o : Obj) (e : w.L[n]? = some a) (es : w.s[n]? = some (some (.nd kvs))) (hH : w.H a = some (NDO a ks)) (r : Paired (NdP K w.I w.L) kvs ks) :
    (⟨upd w.I a (.frz o (NDO a ks)), w.L, w.Z, w.s.set n (some (.fnd kvs)), upd w.H a (.frz o (NDO a ks))⟩ : Wd).Ok K ∧ w.le ⟨upd w.I a (.frz o (NDO a ks)), w.L, w.Z, w.s.set n (some (.fnd kvs)), upd w.H a (.frz o (NDO a ks))⟩ := by
  have hI := (k.cell n a _ e es).1 rfl
  have hn : n < w.s.length := (List.getElem?_eq_some_iff.mp es).1
  have zne : ∀ b ∈ w.Z, b ≠ a := fun b hb z => by
    subst z
    exact (k.zz b hb).2.1 (List.mem_of_getElem? e)
  have hle : w.le ⟨upd w.I a (.frz o (NDO a ks)), w.L, w.Z, w.s.set n (some (.fnd kvs)), upd w.H a (.frz o (NDO a ks))⟩ := ⟨ext_upd hI, List.prefix_rfl, rfl, fun b hb => upd_ne (zne b hb)⟩
  refine ⟨⟨fun b u q => ?_, ?_, fun m b c' e1 e2 => ?_, fun m b e1 e2 => ?_, k.inj, fun b hb => ?_, fun b ps q => ?_, fun b hb o' q => k.zo b hb o' ((upd_ne (zne b hb)).symm.trans q), fun m x q e b hb ps z => k.zt m x q (tab_set rfl e) b hb ps ((upd_ne (zne b hb)).symm.trans z)⟩, hle⟩
  · have q' : upd w.I a (.frz o (NDO a ks)) b = some u := q
    show upd w.H a (.frz o (NDO a ks)) b = some u
    by_cases hb : b = a
    · subst hb
      rw [upd_same] at q' ⊢
      exact q'
    · rw [upd_ne hb] at q' ⊢
      exact k.fr b u q'
  · show w.L.length = (w.s.set n _).length
    rw [List.length_set]; exact k.len
  · by_cases hm : m = n
    · subst hm
      have e2' : (w.s.set m (some (.fnd kvs)))[m]? = some (some c') := e2
      rw [List.getElem?_set_self hn] at e2'
      cases e2'
      have : b = a := Option.some.inj (e1.symm.trans e)
      subst this
      exact ⟨fun z => (by cases z), o, ks, upd_same, upd_same, L2.Paired.mapP r fun p q z => ⟨z.1, z.2.1, z.2.2.1.mono hle.i hle.l, z.2.2.2.mono hle.i hle.l⟩⟩
    · have e2' : (w.s.set n (some (.fnd kvs)))[m]? = some (some c') := e2
      rw [List.getElem?_set_ne (Ne.symm hm)] at e2'
      obtain ⟨c1, c2⟩ := k.cell m b c' e1 e2'
      have hb : b ≠ a := fun z => by subst z; exact hm (nodup_at k.inj e1 e)
      exact ⟨fun z => (upd_ne hb).trans (c1 z), c2.mono (ext_upd hI) List.prefix_rfl (upd_ne hb).symm⟩
  · show upd w.I a _ b ≠ none
    by_cases hb : b = a
    · subst hb; rw [upd_same]; intro z; cases z
    · rw [upd_ne hb]
      refine k.dead m b e1 ?_
      have hm : m ≠ n := fun z => by subst z; exact hb (Option.some.inj (e1.symm.trans e))
      have e2' : (w.s.set n (some (.fnd kvs)))[m]? = some none := e2
      rw [List.getElem?_set_ne (Ne.symm hm)] at e2'
      exact e2'
  · obtain ⟨z1, z2, u, hu⟩ := k.zz b hb
    exact ⟨(upd_ne (zne b hb)).trans z1, z2, u, (upd_ne (zne b hb)).trans hu⟩
  · have q' : upd w.I a (.frz o (NDO a ks)) b = some (.tbl ps) := q
    by_cases hb : b = a
    · subst hb
      rw [upd_same] at q'
      cases q'
    · rw [upd_ne hb] at q'
      exact k.nt b ps q'
/-- what was set apart becomes a cell -/
theorem Wd.Ok.ofZ {p : Addr} {Z : List Addr} {o : HO} {c : Cell} (k : w.Ok K) (hz : w.Z = p :: Z) (hZ : p ∉ Z) (hc : ∀ H', H' p = some o → CellOk K w.I (w.L ++ [p]) H' p c) (hct : c.isTab = false := by rfl) :
    (⟨w.I, w.L ++ [p], Z, w.s ++ [some c], upd w.H p o⟩ : Wd).Ok K ∧ (w.setZ Z).le ⟨w.I, w.L ++ [p], Z, w.s ++ [some c], upd w.H p o⟩ := by
  obtain ⟨z1, z2, u, hu⟩ := k.zz p (by rw [hz]; exact List.mem_cons_self)
  have k' : (⟨w.I, w.L, Z, w.s, fun b => if b = p then none else w.H b⟩ : Wd).Ok K := by
    refine ⟨fun a x e => ?_, k.len, fun n a c e1 e2 => ?_, k.dead, k.inj, fun a ha => ?_, k.nt, fun a ha o' q => ?_, fun n x q e a ha ps z => ?_⟩
    · show (if a = p then none else w.H a) = some x
      have e' : w.I a = some x := e
      rw [if_neg (ne_of_none e' z1)]; exact k.fr a x e
    · obtain ⟨c1, c2⟩ := k.cell n a c e1 e2
      have hne : a ≠ p := fun e => z2 (by rw [← e]; exact List.mem_of_getElem? e1)
      exact ⟨c1, c2.mono (fun _ _ e => e) List.prefix_rfl (if_neg hne).symm⟩
    · obtain ⟨y1, y2, x, hx⟩ := k.zz a (by rw [hz]; exact List.mem_cons_of_mem _ ha)
      have hne : a ≠ p := fun e => hZ (e ▸ ha)
      exact ⟨y1, y2, x, (if_neg hne).trans hx⟩
    · have hne : a ≠ p := fun e => hZ (e ▸ ha)
      have q' : (if a = p then none else w.H a) = some o' := q
      rw [if_neg hne] at q'
      exact k.zo a (by rw [hz]; exact List.mem_cons_of_mem _ ha) o' q'
    · have hne : a ≠ p := fun e => hZ (e ▸ ha)
      have q' : (if a = p then none else w.H a) = some (.tbl ps) := z
      rw [if_neg hne] at q'
      exact k.zt n x q e a (by rw [hz]; exact List.mem_cons_of_mem _ ha) ps q'
  have eH : upd (fun b => if b = p then none else w.H b) p o = upd w.H p o := by
    funext b
    unfold upd
    by_cases hb : b = p
    · rw [if_pos hb, if_pos hb]
    · rw [if_neg hb, if_neg hb]
      exact if_neg hb
  obtain ⟨a1, a2⟩ := k'.newL (p := p) (if_pos rfl) (c := c) (o := o) hc hct
  rw [eH] at a1 a2
  exact ⟨a1, a2.i, a2.l, rfl, fun a ha => upd_ne (fun e => hZ (e ▸ ha))⟩
theorem Fin.inZ2 {α : Type} {r : R α} {Q : α → Wd → Prop} {D : Addr} {Z : List Addr} (hz : w.Z = D :: Z) (h : Fin K mg E (w.setZ Z) r Q) : Fin K mg E w r (fun a w' => Q a (w'.setZ Z)) := by
  have lz : ∀ w' : Wd, w.le w' → (w.setZ Z).le (w'.setZ Z) := fun w' l => ⟨l.i, l.l, rfl, fun b hb => l.zh b (by rw [hz]; exact List.mem_cons_of_mem _ hb)⟩
  cases r with
  | ok a s =>
    intro w' l ok hs
    exact h (w'.setZ Z) (lz w' l) (ok.unZ (l.z.trans hz)) hs
  | er c s =>
    intro C w' hC l ok hs
    exact h C (w'.setZ Z) hC (lz w' l) (ok.unZ (l.z.trans hz)) hs
  | no => exact h
end
/-- {k: v} -/
def mkNd (k v : D) : M D := fun s => match nk8 k with
  | some (.tup _) => .ok (.loc s.length) (s ++ [some (.nd [(k, v)])])
  | _ => .no
def eDisp1 (fk fv : En → M D) : En → M D := fun ρ => bnd (fk ρ) fun k => bnd (fv ρ) fun v => mkNd k v
def nkT (d : D) : Option NestedKey := match nk8 d with | some (.tup ks) => some (.tup ks) | _ => none
theorem nkT_of {d : D} {k : NestedKey} (h : nkT d = some k) : nkD d = some k ∧ k.depth ≤ 8 ∧ ∃ ks, k = .tup ks := by
  unfold nkT at h
  split at h
  · rename_i ks hk
    cases h
    obtain ⟨a, b⟩ := nk8_of hk
    exact ⟨a, b, ks, rfl⟩
  · cases h
def ndgetD (x i : D) : M D := fun s => match ndAt s x, nkT i with
  | some kvs, some k => match ndVal kvs k with | some d => .ok d s | none => .no
  | _, _ => .no
def ndgtD (x i : D) : M D := fun s => match ndAt s x, nkT i with
  | some kvs, some k => .ok ((ndVal kvs k).getD .non) s
  | _, _ => .no
def isNd (x : D) : M Unit := fun s => match ndAt s x with | some _ => .ok () s | none => .no
def ndmemD (b : Bool) (i x : D) : M D := fun s => match ndAt s x, nkT i with
  | some kvs, some k => .ok (.bl (cond b (!(ndVal kvs k).isSome) (ndVal kvs k).isSome)) s
  | _, _ => .no
def ndputD (x i d : D) : M Unit := fun s => match x with
  | .loc n => match s[n]?, nkT i with
    | some (some (.nd kvs)), some k => if szOk (kvs.length + 1) = true then .ok () (s.set n (some (.nd (ndPut kvs k i d)))) else .no
    | _, _ => .no
  | _ => .no
def eNgt (fo fi : En → M D) : En → M D := fun ρ => bnd (fo ρ) fun x => bnd (isNd x) fun _ => bnd (fi ρ) fun i => ndgtD x i
def sNput (fo fi fv : En → M D) : En → M Fl := fun ρ => bnd (fv ρ) fun d => bnd (fo ρ) fun x => bnd (fi ρ) fun i => bnd (ndputD x i d) fun _ => ret (.nx ρ)
def ndKeys (x : D) : M (List D) := fun s => match x with
  | .loc n => match s[n]? with
    | some (some (.nd kvs)) => .ok (kvs.map (·.1)) (s.set n (some (.fnd kvs)))
    | some (some (.fnd kvs)) => .ok (kvs.map (·.1)) s
    | _ => .no
  | _ => .no
def iNdD (f : En → M D) : En → M (List D) := fun ρ => bnd (f ρ) ndKeys
def nsortD (mk : List D → M D) (a : D) : M D := fun s => match ndAt s a with
  | some kvs => if aokD (kvs.map (·.1)) = true then mk (asort (kvs.map (·.1))) s else .no
  | none => .no
section
variable {X : Cx} {E : XK} {pos p : Pos} {x : Str} {e o i value : Expr} {f fo fi fv fk : En → M D} {k : Nat}
theorem Ctl.hu65 (C : Ctl X E k) : X.A.units + 65 < cLine := by have := C.room.un; omega
theorem de_disp1 {ke ve : Expr} (C : Ctl X E k) (hk : DE X E ke fk) (hv : DE X E ve fv) : DE X E (.Dict [some ke] [ve] pos) (eDisp1 fk fv) := (pe_disp1 C.hu65 hk hv).imp fun σ H Q ⟨ρ, w, e, ok, re, h⟩ => by
  subst e
  intro p hp
  obtain ⟨ok0, hZ⟩ := ok.newZ (o := NDO p []) hp (.inr (.inr (.inl ⟨_, rfl⟩))) (by intro _ h; unfold NDO at h; cases h)
  have l0 : w.le ((⟨w.I, w.L, p :: w.Z, w.s, upd w.H p (NDO p [])⟩ : Wd).setZ w.Z) := ⟨fun _ _ e => e, List.prefix_rfl, rfl, fun a ha => upd_ne (fun e => hZ (e ▸ ha))⟩
  have l00 : w.le0 (⟨w.I, w.L, p :: w.Z, w.s, upd w.H p (NDO p [])⟩ : Wd) := ⟨fun _ _ e => e, List.prefix_rfl⟩
  refine ⟨ρ, ⟨w.I, w.L, p :: w.Z, w.s, upd w.H p (NDO p [])⟩, rfl, ok0, re.le0 l00, (Fin.inZ2 rfl ((Fin.bind h).up l0)).imp fun x w2 l2 ok2 h2 v rv => ?_⟩
  have z2 : w2.Z = p :: w.Z := l2.z
  refine ⟨ρ, w2, rfl, ok2, (re.le0 l00).le0 l2.le0, (Fin.inZ2 z2 (Fin.bind h2)).imp fun y w3 l3 ok3 h3 u ru => ?_⟩
  have z3 : w3.Z = p :: w.Z := l3.z.trans z2
  have hp3 : w3.H p = some (NDO p []) := by
    rw [l3.zh p (by rw [z2]; exact List.mem_cons_self), l2.zh p List.mem_cons_self]
    exact upd_same
  refine ⟨hp3, ?_⟩
  have h3' : Fin X.K X.mg E (w3.setZ w.Z) (mkNd x y w3.s) _ := h3
  unfold mkNd at h3'
  split at h3'
  · rename_i ks hk
    obtain ⟨hk1, hk2⟩ := nk8_of hk
    have rx := rv.le0 l3.le0
    obtain ⟨b, rfl⟩ := nk_ref rx hk1
    obtain ⟨ok4, l4⟩ := ok3.ofZ (c := .nd [(x, y)]) (o := NDO p [(.tup ks, b, u)]) z3 hZ fun H' e => ⟨_, e, .cons ⟨hk1, hk2, rx.mono (fun _ _ e => e) (List.prefix_append _ _), ru.mono (fun _ _ e => e) (List.prefix_append _ _)⟩ .nil⟩
    refine ⟨b, _, rfl, rep_nk ok3 _ _ _ rx hk1, hk2, h3' _ l4 ok4 rfl _ (.loc ?_)⟩
    rw [← ok3.len]
    show (w3.L ++ [p])[w3.L.length]? = some p
    rw [List.getElem?_append_right (Nat.le_refl _), Nat.sub_self]; rfl
  · exact h3'.elim
theorem od_nmem (b : Bool) : OpD X.K X.mg E (rNIn b) (ndmemD b) := fun x y v u w Q ok rx ry q => by
  unfold ndmemD at q
  split at q
  · rename_i kvs k h1 h2
    obtain ⟨hk1, hk2, ks, rfl⟩ := nkT_of h2
    obtain ⟨a, es, rfl, rd, r⟩ := nd_at ok ry h1
    obtain ⟨p, rfl⟩ := nk_ref rx hk1
    refine ⟨p, _, a, es, rfl, rfl, ⟨rd, ndp_keys ok r⟩, rep_nk ok _ _ _ rx hk1, hk2, ?_⟩
    rw [ndp_some r]
    exact q w (Wd.le.refl _) ok rfl _ (.bl _)
  · exact q.elim
theorem c_nin (C : Ctl X E k) : CmpD X E .In (ndmemD false) := ⟨_, op_nin C.hu65, od_nmem false⟩
theorem c_nnotin (C : Ctl X E k) : CmpD X E .NotIn (ndmemD true) := ⟨_, op_nnotin C.hu65, od_nmem true⟩
theorem de_nget (C : Ctl X E k) (ho : DE X E o fo) (hi : DE X E i fi) (hs : NoSl i := by exact fun _ _ => rfl) : DE X E (.Subscript o i pos) (e2 ndgetD fo fi) := (pe_nget C.hu65 ho hi hs).imp fun σ H Q ⟨ρ, w, e, ok, re, h⟩ => by
  subst e
  refine ⟨ρ, w, rfl, ok, re, (Fin.bind h).imp fun x w1 l1 ok1 h1 v rv => ?_⟩
  refine ⟨ρ, w1, rfl, ok1, re.le l1, (Fin.bind h1).imp fun y w2 l2 ok2 h2 u ru => ?_⟩
  unfold ndgetD at h2
  split at h2
  · rename_i kvs kk h3 h4
    split at h2
    · rename_i d hd
      obtain ⟨hk1, hk2, ks, rfl⟩ := nkT_of h4
      obtain ⟨a, es, rfl, rd, r⟩ := nd_at ok2 (rv.le l2) h3
      obtain ⟨p, rfl⟩ := nk_ref ru hk1
      obtain ⟨z, hz, rz⟩ := (ndp_val _ r).1 d hd
      exact ⟨p, _, a, es, z, rfl, rfl, ⟨rd, ndp_keys ok2 r⟩, rep_nk ok2 _ _ _ ru hk1, hk2, hz, h2 w2 (Wd.le.refl _) ok2 rfl z rz⟩
    · exact h2.elim
  · exact h2.elim
theorem de_ngt {apos : Pos} (C : Ctl X E k) (ho : DE X E o fo) (hi : DE X E i fi) (hs : starEach [i] X.env = (false, eval i X.env) :: starEach [] X.env := by rfl)
    (hbase : attributeBase o "get" X.env (eval o X.env) = eval o X.env := by rfl)
    (hfew : ((backTo pos (starEach [i] X.env)).all (fun x => !x.1) && (backToKw pos (keywordEach [] X.env)).all (fun x => x.1.isSome)
      && decide (([i] : List Expr).length + ([] : List Keyword).length + (if ([] : List Keyword).isEmpty then 0 else 1) < 30)) = true := by rfl)
    (hline : (apos.endLine == pos.line) = true := by rfl) : DE X E (.Call (.Attribute o "get" apos) [i] [] pos) (eNgt fo fi) := (pe_ngt C.hu65 ho (da_cons hi da_nil hs) hs hbase hfew hline).imp fun σ H Q ⟨ρ, w, e, ok, re, h⟩ => by
  subst e
  refine ⟨ρ, w, rfl, ok, re, (Fin.bind h).imp fun x w1 l1 ok1 h1 v rv => ?_⟩
  have h2 := Fin.bind h1
  unfold isNd at h2
  split at h2
  · rename_i kvs h3
    obtain ⟨a, es, rfl, rd, r⟩ := nd_at ok1 rv h3
    have h4 := h2 w1 (Wd.le.refl _) ok1 rfl
    refine ⟨⟨a, es, rfl, rd, ndp_keys ok1 r⟩, ρ, w1, rfl, ok1, re.le l1, ?_⟩
    have e0 : ∀ s, aCons fi aNil ρ s = (fi ρ s).bind fun y => ret [y] := fun s => rfl
    rw [e0]
    have h5 := Fin.bind h4
    have h6 : Fin X.K X.mg E w1 ((fi ρ w1.s).bind fun y => ret [y]) (fun ds w' => ∀ vs, w'.repL X.K ds vs → ∃ p k a2 ks2, vs = [V.ref p] ∧ V.ref a = .ref a2 ∧ NDat w'.H a2 ks2 ∧ NKey w'.H (.ref p) k ∧ k.depth ≤ 8 ∧ Q ((ndV ks2 k).getD .non) w'.H) := by
      cases q : fi ρ w1.s with
      | ok y s2 =>
        rw [q] at h5
        intro w2 l2 ok2 es2 vs rvs
        obtain ⟨u, rfl, ru⟩ := rep1 rvs
        have h7 : Fin X.K X.mg E w2 (ndgtD x y w2.s) _ := h5 w2 l2 ok2 es2
        unfold ndgtD at h7
        split at h7
        · rename_i kvs2 kk h8 h9
          obtain ⟨hk1, hk2, ks, rfl⟩ := nkT_of h9
          obtain ⟨a2, es2', e2, rd2, r2⟩ := nd_at ok2 (rv.le l2) h8
          obtain ⟨p, rfl⟩ := nk_ref ru hk1
          refine ⟨p, _, a2, es2', rfl, e2, ⟨rd2, ndp_keys ok2 r2⟩, rep_nk ok2 _ _ _ ru hk1, hk2, ?_⟩
          refine h7 w2 (Wd.le.refl _) ok2 rfl _ ?_
          obtain ⟨v1, v2⟩ := ndp_val (.tup ks) r2
          cases q2 : ndVal kvs2 (.tup ks) with
          | none => rw [v2 q2]; exact .non
          | some d =>
            obtain ⟨z, hz, rz⟩ := v1 d q2
            rw [hz]; exact rz
        · exact h7.elim
      | er c s2 => rw [q] at h5; exact h5
      | no => rw [q] at h5; exact h5
    exact h6
  · exact h2.elim
theorem ds_nput {pos' : Pos} (C : Ctl X E k) (ho : DE X E o fo) (hi : DE X E i fi) (hv : DE X E value fv) (hs : swapsWith value (some (.Subscript o i pos')) pos.line X.env = pure false := by rfl) : DS X E (.Assign [.Subscript o i pos'] value pos) (sNput fo fi fv) := (ps_nput C.hu65 ho hi hv hs).imp fun Z σ H ⟨ρ, w, e, ok, re, h⟩ => by
  subst e
  refine ⟨ρ, w, rfl, ok, re, (Fin.bind h).imp fun d w1 l1 ok1 h1 v rv => ?_⟩
  refine ⟨ρ, w1, rfl, ok1, re.le l1, (Fin.bind h1).imp fun x w2 l2 ok2 h2 ov ro => ?_⟩
  refine ⟨ρ, w2, rfl, ok2, re.le (l1.trans l2), (Fin.bind h2).imp fun y w3 l3 ok3 h3 u ru => ?_⟩
  have h4 := Fin.bind h3
  unfold ndputD at h4
  split at h4
  · rename_i n
    split at h4
    · rename_i kvs kk h5 h6
      split at h4
      · rename_i hz
        have ro3 := ro.le l3
        obtain ⟨hk1, hk2, nks, rfl⟩ := nkT_of h6
        obtain ⟨p, rfl⟩ := nk_ref ru hk1
        cases ro3 with
        | loc ea =>
          rename_i a
          obtain ⟨_, ks, hx, r⟩ := ok3.cell n a _ ea h5
          have rd := rv.le (l2.trans l3)
          obtain ⟨ok4, l4⟩ := ok3.put (c := .nd (ndPut kvs (.tup nks) y d)) (o := NDO a (ndP ks (.tup nks) p v)) ea h5 fun H' e => ⟨_, e, ndp_put hk1 hk2 ru rd r⟩
          refine ⟨p, _, a, ks, rfl, rfl, hx, ndp_keys ok3 r, rep_nk ok3 _ _ _ ru hk1, hk2, ?_, ?_⟩
          · have := szOk_le hz
            rw [ndp_len r] at this
            omega
          · have h5 := h4 _ l4 ok4 rfl
            exact fin_ret (Q := EndsQ X.K Z) ok4 h5 σ (re.le (((l1.trans l2).trans l3).trans l4))
      · exact h4.elim
    · exact h4.elim
  · exact h4.elim
theorem itd_nd {K : PySem.W.Frag} {a : Addr} {ob : Obj} {ks : List NEnt} {w0 : Wd} {kvs : List (D × D)} (h : w0.I a = some (.frz ob (NDO a ks))) (r : Paired (NdP K w0.I w0.L) kvs ks) : ItD K (IteN a ob ks) w0 (kvs.map (·.1)) where
  go := fun w i l ok hi => ⟨ok.fr _ _ (l.i _ _ h), by rw [List.length_map, ndp_len r] at hi; exact hi⟩
  stop := fun w i l ok hi => ⟨ok.fr _ _ (l.i _ _ h), by rw [List.length_map, ndp_len r] at hi; exact hi⟩
  yld := fun w i d x H' l ok hd y => by
    obtain ⟨rfl, p, hp, rfl⟩ := y
    have rr := ndp_rep r
    obtain ⟨v, hv, rv⟩ := rr.get hd
    rw [List.getElem?_map, hp] at hv
    cases hv
    exact ⟨w, Wd.le.refl _, ok, rfl, rfl, rv.mono l.i l.l⟩
theorem di_nd {tg : Expr} (he : DE X E e f) : DI X E tg e (iNdD f) := (pi_nd he).imp fun σ H R ⟨ρ, w, e, ok, re, h⟩ => by
  subst e
  refine ⟨ρ, w, rfl, ok, re, (Fin.bind h).imp fun x w1 l1 ok1 h1 v rv => ?_⟩
  unfold ndKeys at h1
  split at h1
  · rename_i n
    cases rv with
    | loc ea =>
      rename_i a
      split at h1
      · rename_i kvs hs
        obtain ⟨_, ks, hx, r⟩ := ok1.cell n a _ ea hs
        refine ⟨a, ks, rfl, .inl ⟨hx, fun ob => ?_⟩⟩
        obtain ⟨ok2, l2⟩ := ok1.frzN ob ea hs hx r
        exact h1 _ l2 ok2 rfl _ (itd_nd upd_same (L2.Paired.mapP r fun p q z => ⟨z.1, z.2.1, z.2.2.1.mono l2.i l2.l, z.2.2.2.mono l2.i l2.l⟩))
      · rename_i kvs hs
        obtain ⟨_, ob, ks, hi, hx, r⟩ := ok1.cell n a _ ea hs
        exact ⟨a, ks, rfl, .inr ⟨ob, hx, h1 w1 (Wd.le.refl _) ok1 rfl _ (itd_nd hi r)⟩⟩
      · exact h1.elim
  · exact h1.elim
theorem nsort_run {K : PySem.W.Frag} {mg : Str → Option Value} {mk : List D → M D} (hk : ∀ {ds : List D} {vs : List V} {w : Wd} {Q : VK}, w.Ok K → w.repL K ds vs → (Fin K mg E w (mk ds w.s) fun d w' => ∀ v, w'.rep K d v → Q v w'.H) → vs.length ≤ sizeLine ∧ ∀ p, w.H p = none → Q (.ref p) (upd w.H p (.lst vs))) : CallD K mg E rSortN (on1 (nsortD mk)) := cd1 fun a v w Q ok ra q => by
  unfold nsortD at q
  split at q
  · rename_i kvs h
    split at q
    · rename_i hok
      obtain ⟨a, ks, rfl, rd, r⟩ := nd_at ok ra h
      have zip : ∀ {kvs : List (D × D)} {ks : List NEnt}, Paired (NdP K w.I w.L) kvs ks → ∃ zs : List ((D × D) × NEnt), zs.map (·.1) = kvs ∧ zs.map (·.2) = ks ∧ ∀ z ∈ zs, NdP K w.I w.L z.1 z.2 := fun {kvs ks} r => by
        induction r with
        | nil => exact ⟨[], rfl, rfl, fun z h => (by cases h)⟩
        | @cons p q ps qs h t ih =>
          obtain ⟨zs, e1, e2, e3⟩ := ih
          exact ⟨(p, q) :: zs, by rw [List.map_cons, e1], by rw [List.map_cons, e2], fun z hz => by
            rcases List.mem_cons.mp hz with y | y
            · rw [y]; exact h
            · exact e3 z y⟩
      obtain ⟨zs, rfl, rfl, hz⟩ := zip r
      have hpy : ∀ z ∈ zs, z.2.1.data = z.1.1.py := fun z h => nk_py _ _ (hz z h).1
      have emap : (zs.map (·.2)).map (fun p : NEnt => p.1.data) = ((zs.map (·.1)).map (·.1)).map D.py := by
        rw [List.map_map, List.map_map, List.map_map]
        exact List.map_congr_left fun z h => hpy z h
      unfold aokD at hok
      rw [Bool.and_eq_true, Bool.and_eq_true, Bool.or_eq_true] at hok
      obtain ⟨⟨k1, k2⟩, k3⟩ := hok
      refine ⟨a, zs.map (·.2), rfl, ⟨rd, ndp_keys ok r⟩, ⟨?_, ?_, ?_⟩, fun p' hp' => ?_⟩
      · rw [emap]
        intro d h1 d' h2
        obtain ⟨z, m1, rfl⟩ := List.mem_map.mp h1
        obtain ⟨z', m2, rfl⟩ := List.mem_map.mp h2
        exact List.all_eq_true.mp (List.all_eq_true.mp k2 _ m1) _ m2
      · rw [emap]
        rcases k3 with k3 | k3
        · refine .inl fun d h1 => ?_
          obtain ⟨z, m1, rfl⟩ := List.mem_map.mp h1
          have := List.all_eq_true.mp k3 _ m1
          cases e : z with
          | tup ds =>
            rw [e] at this
            cases ds with
            | nil => cases this
            | cons a b => exact ⟨_, _, rfl⟩
          | _ => rw [e] at this; cases this
        · refine .inr fun d h1 => ?_
          obtain ⟨z, m1, rfl⟩ := List.mem_map.mp h1
          have := List.all_eq_true.mp k3 _ m1
          cases e : z with
          | tup ds => rw [e] at this; cases this
          | non => rw [e] at this; cases this
          | _ => exact ⟨fun q => (by cases q), fun _ q => (by cases q)⟩
      · intro d hd
        obtain ⟨p, hp, rfl⟩ := List.mem_map.mp hd
        obtain ⟨z, hz', rfl⟩ := List.mem_map.mp hp
        have h8 := (hz z hz').2.1
        exact Nat.le_trans (nk_depth z.2.1) h8
      · have e1 : (zs.mergeSort fun a b => ale a.1.1 b.1.1).map (·.2) = (zs.map (·.2)).mergeSort nle := List.map_mergeSort (fun a ha b hb => by
          show (!PySem.W.dataLt b.1.1.py a.1.1.py) = !PySem.W.dataLt b.2.1.data a.2.1.data
          rw [hpy a ha, hpy b hb])
        have e2 : (zs.mergeSort fun a b => ale a.1.1 b.1.1).map (fun z => z.1.1) = asort ((zs.map (·.1)).map (·.1)) := by
          unfold asort
          rw [List.map_map]
          exact List.map_mergeSort (fun a _ b _ => rfl)
        rw [← e2] at q
        rw [← e1, List.map_map]
        have rl : ∀ {ys : List ((D × D) × NEnt)}, (∀ z ∈ ys, NdP K w.I w.L z.1 z.2) → w.repL K (ys.map fun z => z.1.1) (ys.map ((fun p : NEnt => V.ref p.2.1) ∘ (·.2))) := fun {ys} => by
          induction ys with
          | nil => intro _; exact .nil
          | cons y ys ih => intro h; exact .cons (h y List.mem_cons_self).2.2.1 (ih fun z hz => h z (List.mem_cons_of_mem _ hz))
        exact (hk ok (rl fun z h => hz z ((List.mergeSort_perm zs _).mem_iff.mp h)) q).2 p' hp'
    · exact q.elim
  · exact q.elim
theorem de_sortedN (C : Ctl X E k) (hm : X.mg "sorted" = none) (ha : DE X E e f) (hg : Gl X "sorted" := by rfl) (he : starEach [e] X.env = (false, eval e X.env) :: starEach [] X.env := by rfl) : DE X E (.Call (.Name "sorted" p) [e] [] pos) (eCall (aCons f aNil) (on1 (nsortD mkLst))) :=
  de_callB (cr_sortN C.calm C.hu67) (nsort_run fun ok r q => fin_lst ok r q) hm (by decide +kernel) (da_cons ha da_nil he) hg (by decide) (by decide) he
end
end DL

namespace DL
open PySem
/-! ## dicts with nested tuple keys: plain -/
section
variable {s s' : Sto} {n : Nat} {ρ : En} {d x i v k : D} {kk : NestedKey} {ks : List NestedKey} {Q : D → Sto → Prop} {QU : Unit → Sto → Prop} {QF : Fl → Sto → Prop} {QL : List D → Sto → Prop} {fo fi fv fk f : En → M D} {kvs : List (D × D)}
theorem runs_okE {α : Type} {m : M α} {a : α} {P : α → Sto → Prop} (e : m s = .ok a s') : runs m s P = P a s' := by
  unfold runs
  rw [e]
  exact propext ⟨fun ⟨_, _, e, q⟩ => by cases e; exact q, fun q => ⟨_, _, rfl, q⟩⟩
theorem ndAt_nd (h : s[n]? = some (some (.nd kvs))) : ndAt s (.loc n) = some kvs := by
  show (match s[n]? with | some (some (.nd kvs)) => some kvs | some (some (.fnd kvs)) => some kvs | _ => none) = _
  rw [h]
theorem ndAt_fnd (h : s[n]? = some (some (.fnd kvs))) : ndAt s (.loc n) = some kvs := by
  show (match s[n]? with | some (some (.nd kvs)) => some kvs | some (some (.fnd kvs)) => some kvs | _ => none) = _
  rw [h]
theorem r_disp1 : runs (eDisp1 fk fv ρ) s Q = runs (bnd (fk ρ) fun k => bnd (fv ρ) fun v => mkNd k v) s Q := rfl
theorem r_mkNd (h : nk8 k = some (.tup ks)) : runs (mkNd k v) s Q = Q (.loc s.length) (s ++ [some (.nd [(k, v)])]) := by
  refine runs_okE ?_
  unfold mkNd
  rw [h]
theorem r_eNgt : runs (eNgt fo fi ρ) s Q = runs (bnd (fo ρ) fun x => bnd (isNd x) fun _ => bnd (fi ρ) fun i => ndgtD x i) s Q := rfl
theorem r_isNd (h : ndAt s x = some kvs) : runs (isNd x) s QU = QU () s := by
  refine runs_okE ?_
  unfold isNd
  rw [h]
theorem r_sNput : runs (sNput fo fi fv ρ) s QF = runs (bnd (fv ρ) fun d => bnd (fo ρ) fun x => bnd (fi ρ) fun i => bnd (ndputD x i d) fun _ => ret (.nx ρ)) s QF := rfl
theorem r_ndput (h : s[n]? = some (some (.nd kvs))) (hk : nkT i = some kk) (hz : kvs.length + 1 ≤ 16777216) : runs (ndputD (.loc n) i d) s QU = QU () (s.set n (some (.nd (ndPut kvs kk i d)))) := by
  refine runs_okE ?_
  show (match s[n]?, nkT i with
    | some (some (.nd kvs)), some k => if szOk (kvs.length + 1) = true then R.ok () (s.set n (some (.nd (ndPut kvs k i d)))) else .no
    | _, _ => .no) = _
  rw [h, hk]
  exact if_pos (sz_small hz)
theorem r_ndget (h : ndAt s x = some kvs) (hk : nkT i = some kk) (hv : ndVal kvs kk = some d) : runs (ndgetD x i) s Q = Q d s := by
  refine runs_okE ?_
  unfold ndgetD
  rw [h, hk]
  show (match ndVal kvs kk with | some d => R.ok d s | none => .no) = _
  rw [hv]
theorem r_ndgt (h : ndAt s x = some kvs) (hk : nkT i = some kk) : runs (ndgtD x i) s Q = Q ((ndVal kvs kk).getD .non) s := by
  refine runs_okE ?_
  unfold ndgtD
  rw [h, hk]
theorem r_ndmem {b : Bool} (h : ndAt s x = some kvs) (hk : nkT i = some kk) : runs (ndmemD b i x) s Q = Q (.bl (cond b (!(ndVal kvs kk).isSome) (ndVal kvs kk).isSome)) s := by
  refine runs_okE ?_
  unfold ndmemD
  rw [h, hk]
theorem r_iNd : runs (iNdD f ρ) s QL = runs (f ρ) s (kM ndKeys QL) := r_bnd
theorem r_ndKeys (h : s[n]? = some (some (.nd kvs))) : runs (ndKeys (.loc n)) s QL = QL (kvs.map (·.1)) (s.set n (some (.fnd kvs))) := by
  refine runs_okE ?_
  show (match s[n]? with
    | some (some (.nd kvs)) => (R.ok (List.map (fun p : D × D => p.1) kvs) (s.set n (some (.fnd kvs))) : R (List D))
    | some (some (.fnd kvs)) => .ok (List.map (fun p : D × D => p.1) kvs) s
    | _ => .no) = _
  rw [h]
theorem r_ndKeysF (h : s[n]? = some (some (.fnd kvs))) : runs (ndKeys (.loc n)) s QL = QL (kvs.map (·.1)) s := by
  refine runs_okE ?_
  show (match s[n]? with
    | some (some (.nd kvs)) => (R.ok (List.map (fun p : D × D => p.1) kvs) (s.set n (some (.fnd kvs))) : R (List D))
    | some (some (.fnd kvs)) => .ok (List.map (fun p : D × D => p.1) kvs) s
    | _ => .no) = _
  rw [h]
theorem r_nsort (h : ndAt s x = some kvs) (hok : aokD (kvs.map (·.1)) = true) (hl : kvs.length ≤ 16777216) : runs (nsortD mkLst x) s Q = Q (.lst (asort (kvs.map (·.1)))) s := by
  have e : nsortD mkLst x s = mkLst (asort (kvs.map (·.1))) s := by
    unfold nsortD
    rw [h]
    exact if_pos hok
  unfold runs
  rw [e, p_mkLst_of (sz_small (by unfold asort; rw [List.length_mergeSort, List.length_map]; exact hl))]
  exact propext ⟨fun ⟨_, _, e, q⟩ => by cases e; exact q, fun q => ⟨_, _, rfl, q⟩⟩
end
end DL

namespace DL
open PySem PySem.Spec PyProof.Rows L2
/-! ## objects of the program's own classes -/
/-- the class that the main module calls x stands at C and is a plain one -/
structure Cl (K : PySem.W.Frag) (x : Str) (C : Addr) : Prop where
  ns : PySem.W.nsIn K mainGlobals x = some (some (.ref C))
  cl : Cls K C
def insD (s : Sto) (x : Str) : D → Option (List (Str × D))
  | .loc n => match s[n]? with
    | some (some (.ins y fs)) => if y = x then some fs else none
    | _ => none
  | _ => none
def putG (f : Str) (d : D) : List (Str × D) → List (Str × D)
  | [] => [(f, d)]
  | (g, x) :: r => if g = f then (g, d) :: r else (g, x) :: putG f d r
section
variable {K : PySem.W.Frag} {w : Wd} {x f : Str} {C : Addr}
theorem rep_ins (ok : w.Ok K) (c : Cl K x C) {d : D} {v : V} {fs : List (Str × D)} (r : w.rep K d v) (h : insD w.s x d = some fs) :
    ∃ (n : Nat) (a dx : Addr) (vs : List (Str × V)), d = .loc n ∧ w.L[n]? = some a ∧ v = .ref a ∧ w.s[n]? = some (some (.ins x fs)) ∧ w.H a = some (.ins C dx vs) ∧ fs.map (·.1) = vs.map (·.1) ∧ w.repL K (fs.map (·.2)) (vs.map (·.2)) := by
  cases r with
  | loc e =>
    rename_i n a
    unfold insD at h
    simp only at h
    split at h
    · rename_i y gs hs
      split at h
      · rename_i hy
        subst hy
        cases h
        obtain ⟨_, C', dx, vs, e0, e1, e2, e3⟩ := ok.cell n a _ e hs
        have : C' = C := by
          have z := e0.symm.trans c.ns
          cases z; rfl
        subst this
        exact ⟨n, a, dx, vs, rfl, e, rfl, hs, e1, e2, e3⟩
      · cases h
    · cases h
  | _ => cases h
theorem lookup_rep : ∀ {fs : List (Str × D)} {vs : List (Str × V)} {d : D}, fs.map (·.1) = vs.map (·.1) → w.repL K (fs.map (·.2)) (vs.map (·.2)) → fs.lookup f = some d → ∃ v, vs.lookup f = some v ∧ w.rep K d v
  | [], [], _, _, _, h => by cases h
  | [], _ :: _, _, e, _, _ => by cases e
  | _ :: _, [], _, e, _, _ => by cases e
  | (g, a) :: fs, (g', b) :: vs, d, e, r, h => by
    have e' : g :: fs.map (·.1) = g' :: vs.map (·.1) := e
    injection e' with e1 e2
    subst e1
    have r' : RepL K w.I w.L (a :: fs.map (·.2)) (b :: vs.map (·.2)) := r
    cases r' with
    | cons r1 r2 =>
      rw [List.lookup_cons] at h ⊢
      split at h
      · cases h; exact ⟨b, rfl, r1⟩
      · exact lookup_rep e2 r2 h
theorem lookup_none : ∀ {fs : List (Str × D)} {vs : List (Str × V)}, fs.map (·.1) = vs.map (·.1) → fs.lookup f = none → vs.lookup f = none
  | [], [], _, _ => rfl
  | [], _ :: _, e, _ => by cases e
  | _ :: _, [], e, _ => by cases e
  | (g, a) :: fs, (g', b) :: vs, e, h => by
    have e' : g :: fs.map (·.1) = g' :: vs.map (·.1) := e
    injection e' with e1 e2
    subst e1
    rw [List.lookup_cons] at h ⊢
    split at h
    · cases h
    · exact lookup_none e2 h
theorem putG_ok {d : D} {v : V} (r0 : w.rep K d v) : ∀ {fs : List (Str × D)} {vs : List (Str × V)}, fs.map (·.1) = vs.map (·.1) → w.repL K (fs.map (·.2)) (vs.map (·.2)) →
    (putG f d fs).map (·.1) = (putF f v vs).map (·.1) ∧ w.repL K ((putG f d fs).map (·.2)) ((putF f v vs).map (·.2))
  | [], [], _, _ => ⟨rfl, .cons r0 .nil⟩
  | [], _ :: _, e, _ => by cases e
  | _ :: _, [], e, _ => by cases e
  | (g, a) :: fs, (g', b) :: vs, e, r => by
    have e' : g :: fs.map (·.1) = g' :: vs.map (·.1) := e
    injection e' with e1 e2
    subst e1
    have r' : RepL K w.I w.L (a :: fs.map (·.2)) (b :: vs.map (·.2)) := r
    cases r' with
    | cons r1 r2 =>
      obtain ⟨i1, i2⟩ := putG_ok r0 e2 r2
      unfold putG putF
      by_cases h : g = f
      · rw [if_pos h, if_pos h]
        exact ⟨e, .cons r0 r2⟩
      · rw [if_neg h, if_neg h]
        refine ⟨?_, .cons r1 i2⟩
        rw [List.map_cons, List.map_cons, i1]
end
/-! ### fields -/
def fldD (x f : Str) (d : D) : M D := fun s => match insD s x d with
  | some fs => match fs.lookup f with
    | some e => .ok e s
    | none => .no
  | none => .no
def eFld (x f : Str) (f1 : En → M D) : En → M D := fun ρ => bnd (f1 ρ) (fldD x f)
/-- a constant of the class -/
def conD (x f : Str) (u : D) (d : D) : M D := fun s => match insD s x d with
  | some fs => match fs.lookup f with
    | some _ => .no
    | none => .ok u s
  | none => .no
def eCon (x f : Str) (u : D) (f1 : En → M D) : En → M D := fun ρ => bnd (f1 ρ) (conD x f u)
def fldPut (x f : Str) (o d : D) : M Unit := fun s => match o with
  | .loc n => match insD s x o with
    | some fs => if fs.length < 1000 then .ok () (s.set n (some (.ins x (putG f d fs)))) else .no
    | none => .no
  | _ => .no
def sFldD (x f : Str) (fo fv : En → M D) : En → M Fl := fun ρ => bnd (fv ρ) fun d => bnd (fo ρ) fun o => bnd (fldPut x f o d) fun _ => ret (.nx ρ)
/-- is it one -/
def isIns (x : Str) (o : D) : M Unit := fun s => match insD s x o with
  | some _ => .ok () s
  | none => .no
/-- has it no such field -/
def noFld (x f : Str) (o : D) : M Unit := fun s => match insD s x o with
  | some fs => match fs.lookup f with
    | some _ => .no
    | none => .ok () s
  | none => .no
section
variable {X : Cx} {E : XK} {pos pos' p : Pos} {e o value : Expr} {es : List Expr} {kws : List Keyword} {f1 fo fv : En → M D} {fa fk : En → M (List D)} {k j n : Nat} {x f mn : Str} {C : Addr} {m : List D → M D} {ps ks : List Str} {dv : List V}
theorem isIns_fin {K : PySem.W.Frag} {mg : Str → Option Value} {E : XK} {w : Wd} {o : D} {v : V} {Q : Unit → Wd → Prop} (ok : w.Ok K) (c : Cl K x C) (r : w.rep K o v) (h : Fin K mg E w (isIns x o w.s) Q) :
    ∃ (n : Nat) (a dx : Addr) (vs : List (Str × V)), o = .loc n ∧ w.L[n]? = some a ∧ v = .ref a ∧ w.H a = some (.ins C dx vs) ∧ Q () w := by
  unfold isIns at h
  split at h
  · rename_i fs hf
    obtain ⟨n, a, dx, vs, h1, h2, h3, _, h5, _, _⟩ := rep_ins ok c r hf
    exact ⟨n, a, dx, vs, h1, h2, h3, h5, h w (Wd.le.refl _) ok rfl⟩
  · exact h.elim
theorem noFld_fin {K : PySem.W.Frag} {mg : Str → Option Value} {E : XK} {w : Wd} {o : D} {v : V} {Q : Unit → Wd → Prop} (ok : w.Ok K) (c : Cl K x C) (r : w.rep K o v) (h : Fin K mg E w (noFld x f o w.s) Q) :
    ∃ (a dx : Addr) (vs : List (Str × V)), v = .ref a ∧ w.H a = some (.ins C dx vs) ∧ vs.lookup f = none ∧ Q () w := by
  unfold noFld at h
  split at h
  · rename_i fs hf
    obtain ⟨n, a, dx, vs, h1, h2, h3, h4, h5, h6, h7⟩ := rep_ins ok c r hf
    split at h
    · exact h.elim
    · rename_i hl
      exact ⟨a, dx, vs, h3, h5, lookup_none h6 hl, h w (Wd.le.refl _) ok rfl⟩
  · exact h.elim
theorem de_fld (c : Cl X.K x C) (nf : NoAttr X.K C f) (he : DE X E e f1) (hb : attributeBase e f X.env (eval e X.env) = eval e X.env := by rfl) : DE X E (.Attribute e f pos) (eFld x f f1) := (pe_fld he hb).imp fun σ H Q ⟨ρ, w, e, ok, re, h⟩ => by
  subst e
  refine ⟨ρ, w, rfl, ok, re, (Fin.bind h).imp fun d w1 l1 ok1 h1 v rv => ?_⟩
  unfold fldD at h1
  split at h1
  · rename_i fs hf
    obtain ⟨n, a, dx, vs, h2, h3, rfl, h5, h6, h7, h8⟩ := rep_ins ok1 c rv hf
    split at h1
    · rename_i u hu
      obtain ⟨y, hy, ry⟩ := lookup_rep h7 h8 hu
      exact ⟨a, C, dx, vs, y, rfl, h6, c.cl, nf, hy, h1 w1 (Wd.le.refl _) ok1 rfl y ry⟩
    · exact h1.elim
  · exact h1.elim
theorem de_con {u : D} {y : V} {yv : Value} (c : Cl X.K x C) (kc : Con X.K C f y yv) (ru : ∀ w : Wd, w.rep X.K u y) (he : DE X E e f1) (hb : attributeBase e f X.env (eval e X.env) = eval e X.env := by rfl) : DE X E (.Attribute e f pos) (eCon x f u f1) := (pe_con he hb).imp fun σ H Q ⟨ρ, w, e, ok, re, h⟩ => by
  subst e
  refine ⟨ρ, w, rfl, ok, re, (Fin.bind h).imp fun d w1 l1 ok1 h1 v rv => ?_⟩
  unfold conD at h1
  split at h1
  · rename_i fs hf
    obtain ⟨n, a, dx, vs, h2, h3, rfl, h5, h6, h7, h8⟩ := rep_ins ok1 c rv hf
    split at h1
    · exact h1.elim
    · rename_i hu
      exact ⟨a, C, dx, vs, y, yv, rfl, h6, c.cl, kc, lookup_none h7 hu, h1 w1 (Wd.le.refl _) ok1 rfl y (ru w1)⟩
  · exact h1.elim
theorem ds_fld (c : Cl X.K x C) (nf : NoAttr X.K C f) (ho : DE X E o fo) (hv : DE X E value fv) (hs : swapsWith value (some (.Attribute o f pos')) pos.line X.env = pure false := by rfl) : DS X E (.Assign [.Attribute o f pos'] value pos) (sFldD x f fo fv) := (ps_fld ho hv hs).imp fun Z σ H ⟨ρ, w, e, ok, re, h⟩ => by
  subst e
  refine ⟨ρ, w, rfl, ok, re, (Fin.bind h).imp fun d w1 l1 ok1 h1 y ry => ?_⟩
  refine ⟨ρ, w1, rfl, ok1, re.le l1, (Fin.bind h1).imp fun od w2 l2 ok2 h2 v rv => ?_⟩
  have h3 := Fin.bind h2
  unfold fldPut at h3
  split at h3
  · rename_i n0
    split at h3
    · rename_i fs hf
      obtain ⟨n, a, dx, vs, h4, h5, rfl, h6, h7, h8, h9⟩ := rep_ins ok2 c rv hf
      cases h4
      split at h3
      · rename_i hz
        obtain ⟨p1, p2⟩ := putG_ok (f := f) (ry.le l2) h8 h9
        obtain ⟨ok3, l3⟩ := ok2.put (c := .ins x (putG f d fs)) (o := .ins C dx (putF f y vs)) h5 h6 fun H' e => ⟨C, dx, _, c.ns, e, p1, p2⟩
        have q := h3 _ l3 ok3 rfl
        refine ⟨a, C, dx, vs, rfl, h7, c.cl, nf, ?_, ?_⟩
        · have : vs.length = fs.length := by
            have z := congrArg List.length h8
            simpa using z.symm
          omega
        · exact (fin_ret ok3 q) σ (((re.le l1).le l2).le l3)
      · exact h3.elim
    · exact h3.elim
  · exact h3.elim
end
/-! ### a new object -/
def mkIns (x : Str) (m : List D → M D) (ds : List D) : M D := fun s => (m (.loc s.length :: ds) (s ++ [some (.ins x [])])).bind fun r s' => match r with
  | .non => .ok (.loc s.length) s'
  | _ => .no
def eMakeK (x : Str) (n l : Nat) (fa fk : En → M (List D)) (m : List D → M D) : En → M D := fun ρ => bnd (fa ρ) fun ds => bnd (fk ρ) fun zs => if (ds.length == n && zs.length == l) = true then mkIns x m (ds ++ zs) else stuck
/-- __init__ -/
structure Ini (P : Program) (w : World) (K : PySem.W.Frag) (mg : Str → Option Value) (base : Heap) (k : Nat) (x : Str) (C : Addr) (n : Nat) (ps : List Str) (dv : List V) (ks : List Str) (m : List D → M D) : Prop where
  ex : ∃ (f : Addr) (fd : FuncData), Mk K C f ∧ mg x = some (.ref C) ∧ (∃ us, Vals dv us ∧ L2.Binds K fd ps us) ∧ KBn K fd ps (n + 1) ks (fun us ws => us ++ ws) (fun vs zs => vs ++ zs) ∧ FnOk P w K mg base (L2N.CX P w) k f fd ps (spM K mg m)
section
variable {X : Cx} {E : XK} {pos p : Pos} {e : Expr} {es : List Expr} {kws : List Keyword} {fa fk : En → M (List D)} {k j n : Nat} {x : Str} {C : Addr} {m : List D → M D} {ps ks : List Str} {dv : List V}
theorem mk_fin {K : PySem.W.Frag} {mg : Str → Option Value} {w : Wd} {ds : List D} {vs : List V} {Q : VK} (ok : w.Ok K) (c : Cl K x C) (r : w.repL K ds vs) (h : Fin K mg E w (mkIns x m ds w.s) fun d w' => ∀ v, w'.rep K d v → Q v w'.H) (a dx : Addr) (ha : w.H a = none) (hd : w.H dx = none) (ne : dx ≠ a) :
    spM K mg m (.ref a :: vs) (upd (upd w.H dx (.own a)) a (.ins C dx [])) (fun v H2 => v = .non ∧ Q (.ref a) H2) E := by
  obtain ⟨ok1, l1⟩ := ok.newI hd (.own a)
  have ha1 : (upd w.H dx (.own a)) a = none := by rw [upd_ne ne.symm]; exact ha
  obtain ⟨ok2, l2⟩ := ok1.newL (p := a) (c := .ins x []) (o := .ins C dx []) ha1 fun H' e => ⟨C, dx, [], c.ns, e, rfl, .nil⟩
  have el : (w.L ++ [a])[w.s.length]? = some a := by
    rw [← ok.len, List.getElem?_append_right (Nat.le_refl _), Nat.sub_self]; rfl
  refine ⟨.loc w.s.length :: ds, _, rfl, ok2, .cons (.loc el) ((r.le l1).le l2), ?_⟩
  unfold mkIns at h
  have h1 := Fin.up h (l1.trans l2)
  refine (Fin.bind h1).imp fun d w3 l3 ok3 h3 v rv => ?_
  split at h3
  · cases rv
    exact ⟨rfl, h3 w3 (Wd.le.refl _) ok3 rfl _ (.loc (pre_get l3.l el))⟩
  · exact h3.elim
theorem de_makeK (C0 : Ctl X E k) (c : Cl X.K x C) (F : Ini X.prog X.w X.K X.mg X.base j x C n ps dv ks m) (ha : DA X E (e :: es) fa) (hkw : PK X kws (tDA X.K X.mg E fk)) (hk : j + 1 ≤ k := by decide) (hg : Gl X x := by rfl)
    (hall : (backToKw pos (keywordEach kws X.env)).all (·.1.isSome) = true := by rfl) (hks : (backToKw pos (keywordEach kws X.env)).filterMap (·.1) = ks := by rfl) (hdb : (x == ("__debug__" : Str)) = false := by decide)
    (he : starEach (e :: es) X.env = (false, eval e X.env) :: starEach es X.env := by rfl) (hpl : ((backTo pos (starEach (e :: es) X.env)).any (·.1) || (backToKw pos (keywordEach kws X.env)).any (·.1.isNone)) = false := by rfl) :
    DE X E (.Call (.Name x p) (e :: es) kws pos) (eMakeK x n ks.length fa fk m) := by
  obtain ⟨f, fd, M0, hm, _, hb, F0⟩ := F.ex
  refine (pe_makeK M0 F0 (C0.room.mono hk) hg hm hb C0.pass ha hkw hall hks hdb he hpl).imp fun σ H Q ⟨ρ, w, e, ok, re, h⟩ => ?_
  subst e
  refine ⟨ρ, w, rfl, ok, re, (Fin.bind h).imp fun ds w1 l1 ok1 h1 vs rv => ?_⟩
  refine ⟨ρ, w1, rfl, ok1, re.le l1, (Fin.bind h1).imp fun zs w2 l2 ok2 h2 us ru => ?_⟩
  split at h2
  · rename_i hc
    rw [Bool.and_eq_true, beq_iff_eq, beq_iff_eq] at hc
    refine ⟨by rw [← rv.length]; exact hc.1, by rw [← ru.length]; exact hc.2, fun a dx na nd ne => ?_⟩
    exact mk_fin ok2 c ((rv.le l2).append ru) h2 a dx na nd ne
  · exact h2.elim
/-- the defaults fill up -/
theorem de_makeD (dd : List D) (C0 : Ctl X E k) (c : Cl X.K x C) (F : Ini X.prog X.w X.K X.mg X.base j x C n ps dv ks m) (ha : DA X E (e :: es) fa) (hd : ∀ w : Wd, w.repL X.K dd dv) (hk : j + 1 ≤ k := by decide) (hg : Gl X x := by rfl) (hdb : (x == ("__debug__" : Str)) = false := by decide)
    (he : starEach (e :: es) X.env = (false, eval e X.env) :: starEach es X.env := by rfl) (hpl : (backTo pos (starEach es X.env)).any (·.1) = false := by rfl) : DE X E (.Call (.Name x p) (e :: es) [] pos) (eCall fa (dfl dd (mkIns x m))) := by
  obtain ⟨f, fd, M0, hm, ⟨us, hv, hb⟩, _, F0⟩ := F.ex
  refine (pe_make M0 F0 (C0.room.mono hk) hg hm hb hv C0.pass ha hdb he hpl).imp fun σ H Q ⟨ρ, w, e, ok, re, h⟩ => ?_
  subst e
  refine ⟨ρ, w, rfl, ok, re, (Fin.bind h).imp fun ds w1 l1 ok1 h1 vs rv a dx na nd ne => ?_⟩
  exact mk_fin ok1 c (rv.append (hd w1)) h1 a dx na nd ne
end
/-! ### methods -/
structure MethR (P : Program) (w : World) (K : PySem.W.Frag) (mg : Str → Option Value) (base : Heap) (k : Nat) (C : Addr) (x : Str) (m : List D → M D) : Prop where
  ex : ∃ f : Addr, Meth K C x f ∧ FnR P w K mg base (L2N.CX P w) k f (spM K mg m)
structure PropR (P : Program) (w : World) (K : PySem.W.Frag) (mg : Str → Option Value) (base : Heap) (k : Nat) (C : Addr) (x : Str) (m : List D → M D) : Prop where
  ex : ∃ (p g : Addr) (fd : FuncData), PropOf K C x p g ∧ L2.Binds K fd ["self"] [] ∧ FnOk P w K mg base (L2N.CX P w) k g fd ["self"] (spM K mg m)
def eMeth (x mn : Str) (f1 : En → M D) (fa : En → M (List D)) (m : List D → M D) : En → M D := fun ρ => bnd (f1 ρ) fun o => bnd (noFld x mn o) fun _ => bnd (fa ρ) fun ds => m (o :: ds)
def eProp (x : Str) (f1 : En → M D) (m : List D → M D) : En → M D := fun ρ => bnd (f1 ρ) fun o => bnd (isIns x o) fun _ => noEr (m [o])
/-- len(o) by an own __len__ -/
def lenO (x : Str) (m : List D → M D) (o : D) : M D := bnd (isIns x o) fun _ => bnd (m [o]) fun r s => match r.i? with
  | some i => if smI i = true ∧ 0 ≤ i then .ok (.int i) s else .no
  | none => .no
/-- a in o by an own __contains__ -/
def inO (x : Str) (m : List D → M D) (a o : D) : M D := bnd (isIns x o) fun _ => bnd (m [o, a]) fun r s => match r.b? with
  | some b => .ok (.bl b) s
  | none => .no
theorem noEr_fin0 {K : PySem.W.Frag} {mg : Str → Option Value} {E E' : XK} {w : Wd} {α : Type} {m : M α} {Q : α → Wd → Prop} (h : Fin K mg E w (noEr m w.s) Q) : Fin K mg E' w (m w.s) Q := by
  unfold noEr at h
  cases hm : m w.s with
  | ok a s => rw [hm] at h; exact h
  | er c s => rw [hm] at h; exact h.elim
  | no => rw [hm] at h; exact h
section
variable {X : Cx} {E : XK} {pos p apos : Pos} {e o : Expr} {es : List Expr} {f1 f2 : En → M D} {fa : En → M (List D)} {k j : Nat} {x mn : Str} {C : Addr} {m : List D → M D}
theorem de_meth {pl : Sem Bool} (C0 : Ctl X E k) (c : Cl X.K x C) (F : MethR X.prog X.w X.K X.mg X.base j C mn m) (ho : DE X E o f1) (ha : DA X E (e :: es) fa) (hk : j ≤ k := by decide)
    (hst : starEach (e :: es) X.env = (false, eval e X.env) :: starEach es X.env := by rfl) (hpl : (backTo pos (starEach es X.env)).any (·.1) = false := by rfl)
    (ht : eval (.Call (.Attribute o mn apos) (e :: es) [] pos) X.env = (do
      let ov ← eval o X.env
      standAt apos.atName
      let (f, first) ← holding [ov] (getMethod ov mn pl)
      callWith pos f first (backTo pos (starEach (e :: es) X.env)) (backToKw pos (keywordEach [] X.env))) := by rfl) :
    DE X E (.Call (.Attribute o mn apos) (e :: es) [] pos) (eMeth x mn f1 fa m) := by
  obtain ⟨f, hm, F0⟩ := F.ex
  refine ⟨fun pins s σ H Q I ⟨ρ, w, e0, ok, re, h⟩ => ?_⟩
  subst e0
  refine PySem.W.methodCall_KW (pl := pl) (thn (ho.run pins s σ w.H (fun v H1 => ∃ (a dx : Addr) (vs : List (Str × V)), v = .ref a ∧ H1 a = some (.ins C dx vs) ∧ vs.lookup mn = none ∧ tDA X.K X.mg E fa σ H1 fun us H2 => spM X.K X.mg m (.ref a :: us) H2 Q E) I ⟨ρ, w, rfl, ok, re, (Fin.bind h).imp fun d w1 l1 ok1 h1 v rv => ?_⟩) fun u s1 ⟨y, H1, I1, ry, q⟩ => ?_) ht
  · obtain ⟨a, dx, vs, rfl, h3, h4, h5⟩ := noFld_fin ok1 c rv (Fin.bind h1)
    refine ⟨a, dx, vs, rfl, h3, h4, ρ, w1, rfl, ok1, re.le l1, (Fin.bind h5).imp fun ds w2 l2 ok2 h6 us ru => ?_⟩
    exact ⟨d :: ds, w2, rfl, ok2, .cons (rv.le l2) ru, h6⟩
  · obtain ⟨a, dx, vs, rfl, h3, h4, h5⟩ := q
    obtain rfl : u = Value.ref a := ry
    refine getmeth_ok I1 h3 c.cl hm h4 ?_
    refine PySem.W.callWith_K (first := [.ref a]) (h₀ := X.base) I.ok.mod.kin hm.kp (thn (ha.run pos pins s1 σ H1 _ I1 h5) fun us s2 ⟨ws, H2, I2, r, q2⟩ => ⟨I2.kIn, ?_⟩) hst hpl
    exact wpAny_call (run_fnR (us := .ref a :: us) (vs := .ref a :: ws) F0 (C0.room.mono hk) C0.pass I2 (.cons rfl r) q2)
theorem de_meth0 {pl : Sem Bool} (C0 : Ctl X E k) (c : Cl X.K x C) (F : MethR X.prog X.w X.K X.mg X.base j C mn m) (ho : DE X E o f1) (hk : j ≤ k := by decide)
    (ht : eval (.Call (.Attribute o mn apos) [] [] pos) X.env = (do
      let ov ← eval o X.env
      standAt apos.atName
      let (f, first) ← holding [ov] (getMethod ov mn pl)
      callWith pos f first (backTo pos (starEach [] X.env)) (backToKw pos (keywordEach [] X.env))) := by rfl) :
    DE X E (.Call (.Attribute o mn apos) [] [] pos) (eMeth x mn f1 aNil m) := by
  obtain ⟨f, hm, F0⟩ := F.ex
  refine ⟨fun pins s σ H Q I ⟨ρ, w, e0, ok, re, h⟩ => ?_⟩
  subst e0
  refine PySem.W.methodCall_KW (pl := pl) (thn (ho.run pins s σ w.H (fun v H1 => ∃ (a dx : Addr) (vs : List (Str × V)), v = .ref a ∧ H1 a = some (.ins C dx vs) ∧ vs.lookup mn = none ∧ spM X.K X.mg m [.ref a] H1 Q E) I ⟨ρ, w, rfl, ok, re, (Fin.bind h).imp fun d w1 l1 ok1 h1 v rv => ?_⟩) fun u s1 ⟨y, H1, I1, ry, q⟩ => ?_) ht
  · obtain ⟨a, dx, vs, rfl, h3, h4, h5⟩ := noFld_fin ok1 c rv (Fin.bind h1)
    exact ⟨a, dx, vs, rfl, h3, h4, [d], w1, rfl, ok1, .cons rv .nil, h5⟩
  · obtain ⟨a, dx, vs, rfl, h3, h4, h5⟩ := q
    obtain rfl : u = Value.ref a := ry
    refine getmeth_ok I1 h3 c.cl hm h4 ?_
    exact PySem.W.callWith_K0 (first := [.ref a]) I1.kIn hm.kp (wpAny_call (run_fnR (us := [.ref a]) (vs := [.ref a]) F0 (C0.room.mono hk) C0.pass I1 (.cons rfl .nil) h5))
theorem de_prop (C0 : Ctl X E k) (c : Cl X.K x C) (F : PropR X.prog X.w X.K X.mg X.base j C mn m) (he : DE X E e f1) (hk : j + 1 ≤ k := by decide) (hab : attributeBase e mn X.env (eval e X.env) = eval e X.env := by rfl) :
    DE X E (.Attribute e mn pos) (eProp x f1 m) := by
  obtain ⟨p0, g, fd, hp, hb, F0⟩ := F.ex
  refine (pe_prop (E := E0) he c.cl hp F0 (C0.room.mono hk) hb .nil passN hab).imp fun σ H Q ⟨ρ, w, e0, ok, re, h⟩ => ?_
  subst e0
  refine ⟨ρ, w, rfl, ok, re, (Fin.bind h).imp fun d w1 l1 ok1 h1 v rv => ?_⟩
  obtain ⟨n, a, dx, vs, h2, h3, rfl, h5, h6⟩ := isIns_fin ok1 c rv (Fin.bind h1)
  exact ⟨a, dx, vs, rfl, h5, [d], w1, rfl, ok1, .cons rv .nil, noEr_fin0 h6⟩
/-- own specials -/
structure SpecR (P : Program) (w : World) (K : PySem.W.Frag) (mg : Str → Option Value) (base : Heap) (k : Nat) (C : Addr) (x : Str) (m : List D → M D) : Prop where
  ex : ∃ f : Addr, PySem.W.findIn K (.ref C) x = some (some (.ref f)) ∧ PySem.W.isFn K (.ref f) = true ∧ FnR P w K mg base (L2N.CX P w) k f (spM K mg m)
theorem call_lenO {f : Addr} {sp : Sp} (hs : PySem.W.findIn X.K (.ref C) "__len__" = some (some (.ref f))) (hf : PySem.W.isFn X.K (.ref f) = true) (F : FnR X.prog X.w X.K X.mg X.base (L2N.CX X.prog X.w) j f sp) (hr : Room (j + 1) X.A) (hx : Passes (L2N.CX X.prog X.w) X E) :
    CallR X (.builtin "len") (fun xs H Q => ∃ a dx fs, xs = [.ref a] ∧ H a = some (.ins C dx fs) ∧ sp [.ref a] H (fun v H' => ∃ n : Int, v = .int n ∧ 0 ≤ n ∧ n < 2 ^ 63 ∧ Q (.int n) H') E) := by
  intro pins s σ H xs us Q I r h
  obtain ⟨a, dx, fs, rfl, ha, h⟩ := h
  obtain ⟨u, rfl, rx⟩ := vals1 r
  obtain rfl : u = Value.ref a := rx
  obtain ⟨mA, O, _⟩ := ins_get I.hok ha
  obtain ⟨od, J, _⟩ := O.look
  have hcall : wpAny (model X.prog X.w) X.A.in1 (call (.ref f) [.ref a]) (fun r s' => ∃ n u, r = Value.int n u ∧ 0 ≤ n ∧ n < 2 ^ 63 ∧ ∃ H', Inv X pins σ H' s' ∧ Q (.int n) H') X.xe s := by
    refine wpAny_call (codeAny_mono (F X.A.in1 X.stack s H [.ref a] [.ref a] _ E hr.in1 I.env0.in1 (.cons rfl .nil) h) fun r s' hq => ?_)
    cases r with
    | error e => exact hx pins σ H s e s' I hq
    | ok fl =>
      cases fl with
      | ret u =>
        obtain ⟨v, H', I', rv, n, rfl, h0, h1, q⟩ := I.after hq
        obtain ⟨t, rfl⟩ := rv
        exact ⟨n, t, rfl, h0, h1, H', I', q⟩
      | next => exact False.elim hq
      | brk => exact False.elim hq
      | cont => exact False.elim hq
  refine Calls.call_function_entry PySem.kind_len PySem.plain_len PySem.entry_len (PySem.args_len1 _) ?_
  unfold Builtin.«len»
  refine wpAny_bind (m := oneArg "len" _) (wpAny_pure ?_)
  refine wpAny_bind (m := callSpecial? (.ref a) (Str.ofString "__len__")) (PySem.W.special_fn I.kIn J hs (beq_iff_eq.mp hf) (wpAny_mono hcall (fun r s' hr => ?_) fun _ _ y => y))
  obtain ⟨n, u, rfl, h0, h1, H', I', hq⟩ := hr
  refine wpAny_bind (wpAny_holding (wpAny_pure ?_))
  refine wpAny_bind (wpAny_letGo ?_)
  show wpAny _ _ (if n < 0 then _ else _) _ _ _
  rw [if_neg (by omega)]
  show wpAny _ _ (if n ≥ 2 ^ 63 then _ else _) _ _ _
  rw [if_neg (by omega)]
  exact wpAny_bind (wpAny_mkInt (wpAny_pure ⟨_, rfl, ⟨.int n, H', I'.tok _, ⟨_, rfl⟩, hq⟩⟩))
/-- a in o by an own __contains__, the def run by A itself -/
theorem op_inO {f : Addr} {sp : Sp} (hs : PySem.W.findIn X.K (.ref C) "__contains__" = some (some (.ref f))) (hf : PySem.W.isFn X.K (.ref f) = true) (F : FnR X.prog X.w X.K X.mg X.base (L2N.CX X.prog X.w) j f sp) (hr : Room j X.A) (hx : Passes (L2N.CX X.prog X.w) X E) :
    OpR X (compareOp .In) (fun x y H Q => ∃ a dx fs, y = .ref a ∧ H a = some (.ins C dx fs) ∧ sp [.ref a, x] H (fun v H' => ∃ b : Bool, v = .bl b ∧ Q (.bl b) H') E) := by
  intro pins s σ H x y v u Q I rx ry h
  obtain ⟨a, dx, fs, rfl, ha, h⟩ := h
  obtain rfl : u = Value.ref a := ry
  obtain ⟨mA, O, _⟩ := ins_get I.hok ha
  obtain ⟨od, J, _⟩ := O.look
  have hcall : wpAny (model X.prog X.w) X.A (call (.ref f) [.ref a, v]) (fun r s' => ∃ b, r = Value.bool b ∧ ∃ H', Inv X pins σ H' s' ∧ Q (.bl b) H') X.xe s := by
    refine wpAny_mono (wpAny_call (run_fnR (us := [.ref a, v]) (vs := [.ref a, x]) F hr hx I (.cons rfl (.cons rx .nil)) h)) (fun r s' q => ?_) fun _ _ z => z
    obtain ⟨z, H', I', rz, b, rfl, q⟩ := q
    cases rz
    exact ⟨b, rfl, H', I', q⟩
  show wpAny (model X.prog X.w) X.A (contains (.ref a) v >>= fun b => pure (Value.bool b)) _ _ _
  refine wpAny_bind ?_
  unfold contains
  refine wpAny_holding ?_
  rw [show stdlibNamesSay? (.ref a) v = none from rfl]
  refine wpAny_bind (wpAny_bind (J.type.here ((PySem.W.looks_findIn I.kIn hs).here ?_)))
  show wpAny _ _ (if (some (Value.ref f) == some Value.none) = true then _ else _) _ _ _
  rw [if_neg (by simp)]
  refine wpAny_bind ?_
  unfold callSpecialUnlessNone?
  refine wpAny_bind (wpAny_bind (J.type.here ((PySem.W.looks_findIn I.kIn hs).here ?_)))
  refine wpAny_holding (wpAny_bind ((PySem.W.bind_fn I.kIn _ (beq_iff_eq.mp hf)).here ?_))
  show wpAny _ _ (if (Value.ref f == Value.none) = true then _ else _) _ _ _
  rw [if_neg (by simp)]
  refine wpAny_bind (wpAny_mono hcall (fun r s' q => ?_) fun _ _ z => z)
  obtain ⟨b, rfl, H', I', q⟩ := q
  exact wpAny_pure (wpAny_truthy_bool (wpAny_pure ⟨.bl b, H', I', rfl, q⟩))
theorem od_inO {K : PySem.W.Frag} {mg : Str → Option Value} (c : Cl K x C) : OpD K mg E (fun x y H Q => ∃ a dx fs, y = .ref a ∧ H a = some (.ins C dx fs) ∧ spM K mg m [.ref a, x] H (fun v H' => ∃ b : Bool, v = .bl b ∧ Q (.bl b) H') E) (inO x m) := fun a o v u w Q ok rx ry q => by
  unfold inO at q
  obtain ⟨n, p, dx, vs, h2, h3, rfl, h5, h6⟩ := isIns_fin ok c ry (Fin.bind q)
  refine ⟨p, dx, vs, rfl, h5, [o, a], w, rfl, ok, .cons ry (.cons rx .nil), (Fin.bind h6).imp fun d w1 l1 ok1 h7 v rv => ?_⟩
  split at h7
  · rename_i b hb
    exact ⟨b, rep_bl rv hb, h7 w1 (Wd.le.refl _) ok1 rfl _ (.bl b)⟩
  · exact h7.elim
theorem c_inO (C0 : Ctl X E k) (c : Cl X.K x C) (F : SpecR X.prog X.w X.K X.mg X.base j C "__contains__" m) (hk : j ≤ k := by decide) : CmpD X E .In (inO x m) :=
  let ⟨_, hs, hf, F0⟩ := F.ex
  ⟨_, op_inO hs hf F0 (C0.room.mono hk) C0.pass, od_inO c⟩
theorem de_lenO (C0 : Ctl X E k) (c : Cl X.K x C) (F : SpecR X.prog X.w X.K X.mg X.base j C "__len__" m) (hm : X.mg "len" = none) (ha : DE X E e f1) (hk : j + 1 ≤ k := by decide) (hg : Gl X "len" := by rfl) (he : starEach [e] X.env = (false, eval e X.env) :: starEach [] X.env := by rfl) : DE X E (.Call (.Name "len" p) [e] [] pos) (eCall (aCons f1 aNil) (on1 (lenO x m))) := by
  obtain ⟨f, hs, hf, F0⟩ := F.ex
  refine de_callB (call_lenO hs hf F0 (C0.room.mono hk) C0.pass) (cd1 fun o v w Q ok ra q => ?_) hm PySem.boot_len (da_cons ha da_nil he) hg (he := he)
  unfold lenO at q
  obtain ⟨n, p, dx, vs, h2, h3, rfl, h5, h6⟩ := isIns_fin ok c ra (Fin.bind q)
  refine ⟨p, dx, vs, rfl, h5, [o], w, rfl, ok, .cons ra .nil, (Fin.bind h6).imp fun d w1 l1 ok1 h7 v rv => ?_⟩
  split at h7
  · rename_i i hi
    split at h7
    · rename_i hz
      obtain ⟨z1, z2⟩ := smI_b hz.1
      exact ⟨i, rep_int rv hi, hz.2, by omega, h7 w1 (Wd.le.refl _) ok1 rfl _ (.int i)⟩
    · exact h7.elim
  · exact h7.elim
end
section
variable {P : Program} {w : World} {K : PySem.W.Frag} {mg : Str → Option Value} {base : Heap}
theorem fnr_star {x qual pv : Str} {st : Stmt} {f : Addr} {fd : FuncData} {N ps : List Str} {k : Nat} {fb : En → M Fl} (F : Fun K x qual st f fd) (S : FnScope N (ps ++ [pv]) (defScope st))
    (hb : ∀ (kV doc pm : Value) (an : Option Addr) (cdv ct : Value) (us rest : List Value), us.length = ps.length → bindArgs (PySem.W.fnOf x qual (defArgs st) (defBody st) (defScope st) .none kV doc pm an cdv ct) ⟨us ++ rest, []⟩ = (newTuple rest >>= fun t => pure (ps.zip us ++ [(pv, t)])))
    (body : ∀ (E : XK) (cdv : Value) (A : Around) (outer : List PySem.Env) (s : Shared) (H : Hp), Ctl (cxOf (L2N.CX P w) P w K mg base N qual (defScope st) f cdv A outer s H E) E k → DSs (cxOf (L2N.CX P w) P w K mg base N qual (defScope st) f cdv A outer s H E) E (defBody st) fb) :
    FnR P w K mg base (L2N.CX P w) (k + 1) f (spM K mg (starM ps.length (mkM (ps.length + 1) N.length fb))) := by
  obtain ⟨oc, od, kV, doc, pm, an, cdv, ct, osl, e, lk, hcd⟩ := F.1
  refine (StX.fn_star (sp := spM K mg (mkM (ps.length + 1) N.length fb)) (by rw [← e]; exact lk) hcd S cxUpN (hb kV doc pm an cdv ct) fun A outer s H vs Q E hr h => ?_).imp fun vs H Q E h => ?_
  · obtain ⟨ds, wd, rfl, ok, r, h⟩ := h
    have hl := mkM_len h
    refine ⟨_, body E cdv A outer s wd.H (ctl_of S.nd hr), ?_⟩
    unfold mkM at h
    rw [if_pos hl, ← hl] at h
    refine ⟨_, wd, rfl, ok, repE_start r, (Fin.bind h).imp fun fl w1 l1 ok1 h1 => ?_⟩
    cases fl with
    | nx ρ => exact fun _ _ => fin_ret ok1 h1 .non .non
    | rt d => exact fun v rv => fin_ret ok1 h1 v rv
    | bk ρ => exact h1.elim
    | ct ρ => exact h1.elim
  · obtain ⟨ds, wd, rfl, ok, r, h⟩ := h
    unfold starM at h
    split at h
    · rename_i hc
      rw [Bool.and_eq_true] at hc
      have hn := of_decide_eq_true hc.1
      have hz := szOk_le hc.2
      have hl := r.length
      refine ⟨vs.take ps.length, vs.drop ps.length, (List.take_append_drop _ _).symm, by rw [List.length_take]; omega, by rw [List.length_drop]; omega, fun p hp => ?_⟩
      obtain ⟨ok', l'⟩ := ok.newI hp (.tup (vs.drop ps.length))
      refine ⟨ds.take ps.length ++ [.tup (ds.drop ps.length)], _, rfl, ok', ?_, Fin.up h l'⟩
      exact ((r.take _).le l').append (.cons (.tup upd_same ((r.drop _).le l')) .nil)
    · exact h.elim
theorem fnr_mk {x qual : Str} {st : Stmt} {f : Addr} {fd : FuncData} {N ps : List Str} {k : Nat} {fb : En → M Fl} (F : Fun K x qual st f fd) (S : FnScope N ps (defScope st)) (hb : L2.Binds K fd ps [])
    (body : ∀ (E : XK) (cdv : Value) (A : Around) (outer : List PySem.Env) (s : Shared) (H : Hp), Ctl (cxOf (L2N.CX P w) P w K mg base N qual (defScope st) f cdv A outer s H E) E k → DSs (cxOf (L2N.CX P w) P w K mg base N qual (defScope st) f cdv A outer s H E) E (defBody st) fb) :
    FnR P w K mg base (L2N.CX P w) (k + 1) f (spM K mg (mkM ps.length N.length fb)) :=
  ((fn_mk F S body).raw hb .nil).imp fun vs H Q E h => by rw [List.append_nil]; exact h
end
end DL

namespace DL
open PySem
/-! ## objects: plain -/
section
variable {s s' : Sto} {n : Nat} {ρ : En} {d e o a : D} {x f : Str} {fs : List (Str × D)} {m : List D → M D} {ds : List D} {Q : D → Sto → Prop} {QU : Unit → Sto → Prop} {QF : Fl → Sto → Prop} {f1 fo fv : En → M D} {fa fk : En → M (List D)} {i : Int} {k l : Nat} {b : Bool}
theorem insD_at (h : s[n]? = some (some (.ins x fs))) : insD s x (.loc n) = some fs := by
  show (match s[n]? with | some (some (.ins y fs)) => if y = x then some fs else none | _ => none) = _
  rw [h]
  exact if_pos rfl
theorem r_fld : runs (eFld x f f1 ρ) s Q = runs (f1 ρ) s (kM (fldD x f) Q) := r_bnd
theorem r_fldD (h : insD s x d = some fs) (hl : fs.lookup f = some e) : runs (fldD x f d) s Q = Q e s := by
  refine runs_okE ?_
  unfold fldD
  rw [h]
  show (match fs.lookup f with | some e => R.ok e s | none => .no) = _
  rw [hl]
theorem r_con {u : D} : runs (eCon x f u f1 ρ) s Q = runs (f1 ρ) s (kM (conD x f u) Q) := r_bnd
theorem r_conD {u : D} (h : insD s x d = some fs) (hl : fs.lookup f = none) : runs (conD x f u d) s Q = Q u s := by
  refine runs_okE ?_
  unfold conD
  rw [h]
  show (match fs.lookup f with | some _ => (R.no : R D) | none => R.ok u s) = _
  rw [hl]
theorem r_sFld : runs (sFldD x f fo fv ρ) s QF = runs (bnd (fv ρ) fun d => bnd (fo ρ) fun o => bnd (fldPut x f o d) fun _ => ret (.nx ρ)) s QF := rfl
theorem r_fldPut (h : s[n]? = some (some (.ins x fs))) (hz : fs.length < 1000) : runs (fldPut x f (.loc n) d) s QU = QU () (s.set n (some (.ins x (putG f d fs)))) := by
  refine runs_okE ?_
  unfold fldPut
  simp only
  rw [insD_at h]
  exact if_pos hz
theorem r_isIns (h : insD s x o = some fs) : runs (isIns x o) s QU = QU () s := by
  refine runs_okE ?_
  unfold isIns
  rw [h]
theorem r_noFld (h : insD s x o = some fs) (hl : fs.lookup f = none) : runs (noFld x f o) s QU = QU () s := by
  refine runs_okE ?_
  unfold noFld
  rw [h]
  show (match fs.lookup f with | some _ => (R.no : R Unit) | none => R.ok () s) = _
  rw [hl]
theorem r_makeK : runs (eMakeK x k l fa fk m ρ) s Q = runs (bnd (fa ρ) fun ds => bnd (fk ρ) fun zs => if (ds.length == k && zs.length == l) = true then mkIns x m (ds ++ zs) else stuck) s Q := rfl
theorem r_mkIns (h : runs (m (.loc s.length :: ds)) (s ++ [some (.ins x [])]) fun r s' => r = .non ∧ Q (.loc s.length) s') : runs (mkIns x m ds) s Q := by
  obtain ⟨r, s1, e, rfl, q⟩ := h
  refine ⟨.loc s.length, s1, ?_, q⟩
  unfold mkIns
  rw [e]; rfl
theorem r_meth {mn : Str} : runs (eMeth x mn f1 fa m ρ) s Q = runs (bnd (f1 ρ) fun o => bnd (noFld x mn o) fun _ => bnd (fa ρ) fun ds => m (o :: ds)) s Q := rfl
theorem r_prop : runs (eProp x f1 m ρ) s Q = runs (bnd (f1 ρ) fun o => bnd (isIns x o) fun _ => noEr (m [o])) s Q := rfl
theorem r_lenO (h : insD s x o = some fs) (hr : runs (m [o]) s fun d s' => d = .int i ∧ s' = s) (hi : smI i = true ∧ 0 ≤ i) : runs (lenO x m o) s Q = Q (.int i) s := by
  obtain ⟨d, s1, e, rfl, rfl⟩ := hr
  refine runs_okE ?_
  unfold lenO
  show (isIns x o s1).bind _ = _
  rw [show isIns x o s1 = .ok () s1 from by unfold isIns; rw [h]]
  show ((m [o] s1).bind _) = _
  rw [e]
  exact if_pos hi
theorem r_inO (h : insD s x o = some fs) (hr : runs (m [o, a]) s fun d s' => d = .bl b ∧ s' = s) : runs (inO x m a o) s Q = Q (.bl b) s := by
  obtain ⟨d, s1, e, rfl, rfl⟩ := hr
  refine runs_okE ?_
  unfold inO
  show (isIns x o s1).bind _ = _
  rw [show isIns x o s1 = .ok () s1 from by unfold isIns; rw [h]]
  show ((m [o, a] s1).bind _) = _
  rw [e]; rfl
end
end DL

namespace DL
namespace Hot
open PySem PySem.Spec PyProof.Rows HotX
/-! ## an iterator's end while an exception is handled -/
section
variable {prog : Program} {w : World} {A : Around} {E : Value → Shared → Prop} {s : Shared} {x1 : Addr}
theorem HotAt.keep {h h' : Heap} (c : HotAt A x1 h) (k : ∀ o, h.get? x1 = some o → h'.get? x1 = some o) : HotAt A x1 h' := by
  obtain ⟨a, o, vs, e, d, v⟩ := c
  exact ⟨a, o, vs, k o e, d, v⟩
/-- the end of an iterator, told while x1 is handled -/
theorem stop_hot {α : Type} {Q : α → Shared → Prop} (c : HotAt A x1 s.heap)
    (hE : ∀ h' e, (∀ b o, s.heap.get? b = some o → h'.get? b = some o) → (∃ o, h'.get? e = some o ∧ o.cls = .type "StopIteration") → E (.ref e) { s with heap := h' }) :
    wpAny (model prog w) A (Builtin.SmallTypes.stopIteration : Sem α) Q E s := by
  obtain ⟨hh, o1, vs1, h1, d1, c1⟩ := c
  unfold Builtin.SmallTypes.stopIteration
  refine wpAny_bind ?_
  simp only [newExc, newTuple]
  refine wpAny_bind (wpAny_newObj_type ?_ (by size_fits))
  refine wpAny_bind (m := firstArgMember _ _) (wpAny_of_eq (a := Value.none) (by first | rfl | (simp only [firstArgMember]; rfl)) ?_)
  refine wpAny_newObj_type ?_ (by size_fits)
  have h2 := Heap.get?_push_of_some (h := s.heap) { cls := .type "tuple", data := .seq ([] : List Value).toArray } h1
  refine raiseNew_hot ⟨hh, o1, vs1, Heap.get?_push_of_some _ (Heap.get?_push_of_some _ h1), d1, c1⟩ (Nat.ne_of_lt (Heap.lt_size (Heap.get?_push_of_some _ h1))) (Heap.get?_push_size _ rfl) rfl (by first | (simp; done) | (simp; omega) | (simp only [Array.size_append]; simp; omega)) ?_
  refine hE _ _ (fun b o e => ?_) ⟨_, Heap.get?_update_self _ (Heap.get?_push_size _ rfl) rfl, rfl⟩
  rw [Heap.get?_update_other _ _ (Nat.ne_of_gt (Heap.lt_size (Heap.get?_push_of_some _ e)))]
  exact Heap.get?_push_of_some _ (Heap.get?_push_of_some _ e)
theorem HotAt.ne_fields {h : Heap} {b : Addr} {o : Obj} {us : Array Value} (c : HotAt A x1 h) (e : h.get? b = some o) (d : o.data = .fields us) (n : us.size ≤ 2) : x1 ≠ b := by
  obtain ⟨_, o1, vs, e1, d1, v1⟩ := c
  rintro rfl
  rw [e] at e1
  cases e1
  rw [d] at d1
  cases d1
  have := (Array.getElem?_eq_some_iff.mp v1).1
  omega
/-- what a list's iterator says at its end -/
theorem list_end_hot {it l : Addr} {i : Nat} {items : Array Value} {Q : PySem.Fin → Shared → Prop} (c : HotAt A x1 s.heap) (hit : s.heap.IsListIter it l i) (hl : s.heap.IsList l items) (hx : items[i]? = none)
    (hE : ∀ h' e, Heap.ExtBut it s.heap h' → (∃ o, h'.get? e = some o ∧ o.cls = .type "StopIteration") → E (.ref e) { s with heap := h' }) :
    wpAny (model prog w) A (Builtin.«list_iterator.__next__» ⟨[.ref it], []⟩) Q E s := by
  obtain ⟨o, ho, hc, hd⟩ := id hit
  obtain ⟨ol, hol, _, nl, hdl⟩ := hl
  have ne := HotAt.ne_fields c ho hd (by simp)
  show wpAny _ _ (field (.ref it) 0 >>= _) _ _ s
  refine wpAny_bind (wpAny_field ho hd (x := .ref l) rfl ?_)
  show wpAny _ _ (if (Value.ref l == Value.none) = true then _ else _) _ _ s
  rw [if_neg (show ¬ ((Value.ref l == Value.none) = true) from Bool.false_ne_true)]
  show wpAny _ _ (field (.ref it) 1 >>= _) _ _ s
  refine wpAny_bind (wpAny_field ho hd (x := .int i 0) rfl ?_)
  show wpAny _ _ (seqItems? (.ref l) >>= _) _ _ s
  refine wpAny_bind (wpAny_seqItems hol hdl ?_)
  simp only [Int.toNat_natCast, hx]
  refine wpAny_bind (wpAny_rule (wpAny_bind (wpAny_setField ho hd (by simp) ?_)))
  refine stop_hot (HotAt.keep c fun o1 e1 => (Heap.get?_update_other _ _ (Ne.symm ne)).trans e1) fun h' e k he => hE h' e (fun b ob hb eb => k b ob ((Heap.get?_update_other _ _ (Ne.symm hb)).trans eb)) he
theorem nextOf_end_hot {it l : Addr} {i : Nat} {items : Array Value} {Q : Value → Shared → Prop} (c : HotAt A x1 s.heap) (hit : s.heap.IsListIter it l i) (hl : s.heap.IsList l items) (hx : items[i]? = none)
    (hE : ∀ h' e, Heap.ExtBut it s.heap h' → (∃ o, h'.get? e = some o ∧ o.cls = .type "StopIteration") → E (.ref e) { s with heap := h' }) :
    wpAny (model prog w) A (Builtin.SmallTypes.nextOf (.ref it)) Q E s := by
  unfold Builtin.SmallTypes.nextOf
  exact wpAny_bind (wpAny_callSpecial?_slot (name := Str.ofString "__next__") hit.typeIs slot_listiter_next
    (wpAny_call_entry slot_listiter_next hit.typeIs entry_listiter_next (list_end_hot (A := A.in1) c hit hl hx hE) (args_listiter_next _)))
/-- the end of zip, its first list at its end -/
theorem zip_end_hot {z TI TO i1 i2 l1 l2 : Addr} {k1 : Nat} {xs : Array Value} {Q : Option Value → Shared → Prop} (c : HotAt A x1 s.heap) (D : ZipApart z TI TO i1 i2 l1 l2)
    (hz : IsZip s.heap z TI TO .none) (hTI : IsPair s.heap TI (.ref i1) (.ref i2)) (h1 : s.heap.IsListIter i1 l1 k1) (hl1 : s.heap.IsList l1 xs) (hx : xs[k1]? = none)
    (hQ : ∀ h', (∀ b o, b ≠ z → b ≠ i1 → s.heap.get? b = some o → h'.get? b = some o) → Q none { s with heap := h' }) : wpAny (model prog w) A (pyNext (.ref z)) Q E s := by
  have hT : s.TypeIs (.ref z) "zip" := ⟨_, hz, rfl⟩
  have nz : x1 ≠ z := by
    obtain ⟨_, o1, vs, e1, d1, v1⟩ := c
    rintro rfl
    rw [hz] at e1
    cases e1
    cases d1
    cases v1
  unfold pyNext
  refine wpAny_bind (wpAny_attempt (wpAny_callSpecial?_slot (name := Str.ofString "__next__") hT F.slot_zip_next (wpAny_call_entry F.slot_zip_next hT F.entry_zip_next ?_ (F.args_zip_next_1 _))))
  show wpAny _ _ (field (.ref z) 2 >>= _) _ _ _
  refine wpAny_bind (wpAny_field hz rfl (x := .bool false) rfl ?_)
  show wpAny _ _ (field (.ref z) 3 >>= _) _ _ _
  refine wpAny_bind (wpAny_field hz rfl (x := .ref TI) rfl (wpAny_bind (wpAny_seqItems hTI rfl ?_)))
  show wpAny _ _ (Builtin.SmallTypes.ownedTupleIsFree (.ref z) >>= _) _ _ _
  refine wpAny_bind ?_
  unfold Builtin.SmallTypes.ownedTupleIsFree
  refine wpAny_bind (wpAny_field hz rfl (x := .none) rfl (wpAny_pure ?_))
  simp only [if_true]
  refine wpAny_bind (wpAny_rule (wpAny_bind (wpAny_field hz rfl (x := .ref TO) rfl (wpAny_bind (wpAny_setField_rec hz (by simp) fun h₁ hz₁ hs₁ => ?_)))))
  replace hz₁ : IsZip h₁ z TI TO .ellipsis := hz₁
  refine wpAny_bind ?_
  simp only [List.zipIdx_cons, List.zipIdx_nil, List.forIn_cons, List.forIn_nil]
  refine wpAny_bind (wpAny_bind (wpAny_onRaise ?_))
  show wpAny _ _ (Builtin.SmallTypes.nextOf (.ref i1) >>= _) _ _ _
  refine wpAny_bind (nextOf_end_hot (A := A.in1) (HotAt.keep c fun o e => hs₁.extBut _ _ nz e) (h1.extBut hs₁.extBut D.i1z) (hl1.extBut hs₁.extBut D.l1z) hx fun h₂ e hs₂ he => ?_)
  obtain ⟨oe, hoe, hce⟩ := he
  have hz₂ : IsZip h₂ z TI TO .ellipsis := hs₂ _ _ D.i1z.symm hz₁
  have hez : e ≠ z := fun q => by
    subst q
    rw [hz₂] at hoe
    cases hoe
    simp at hce
  refine wpAny_setField_rec hz₂ (by simp) fun h₃ _ hs₃ => ?_
  refine wpAny_bind (wpAny_isInstance (T := "StopIteration") (b := true) ⟨oe, hs₃.extBut _ _ hez hoe, hce⟩ isSubtype_stop ?_)
  exact wpAny_pure (hQ _ fun b o b1 b2 q => hs₃.extBut _ _ b1 (hs₂ _ _ b2 (hs₁.extBut _ _ b1 q)))
theorem tuple_end_hot {it t : Addr} {i : Nat} {items : Array Value} {Q : Option Value → Shared → Prop} (c : HotAt A x1 s.heap) (hit : s.heap.IsTupleIter it t i) (ht : s.heap.IsTuple t items) (hx : items[i]? = none)
    (hQ : ∀ h', Heap.ExtBut it s.heap h' → Q none { s with heap := h' }) : wpAny (model prog w) A (pyNext (.ref it)) Q E s := by
  obtain ⟨o, ho, hc, hd⟩ := id hit
  obtain ⟨ol, hol, _, nl, hdl⟩ := ht
  have ne := HotAt.ne_fields c ho hd (by simp)
  unfold pyNext
  refine wpAny_bind (wpAny_attempt (wpAny_callSpecial?_slot (name := Str.ofString "__next__") hit.typeIs F.slot_tuple_iterator_next (wpAny_call_entry F.slot_tuple_iterator_next hit.typeIs F.entry_tuple_iterator_next ?_ (F.args_tuple_iterator_next_1 _))))
  show wpAny _ _ (field (.ref it) 0 >>= _) _ _ s
  refine wpAny_bind (wpAny_field ho hd (x := .ref t) rfl ?_)
  show wpAny _ _ (if (Value.ref t == Value.none) = true then _ else _) _ _ s
  rw [if_neg (show ¬ ((Value.ref t == Value.none) = true) from Bool.false_ne_true)]
  show wpAny _ _ (field (.ref it) 1 >>= _) _ _ s
  refine wpAny_bind (wpAny_field ho hd (x := .int i 0) rfl ?_)
  show wpAny _ _ (seqItems? (.ref t) >>= _) _ _ s
  refine wpAny_bind (wpAny_seqItems hol hdl ?_)
  simp only [Int.toNat_natCast, hx]
  refine wpAny_bind (wpAny_rule (wpAny_bind (wpAny_setField ho hd (by simp) ?_)))
  refine stop_hot (A := A.in1) (HotAt.keep c fun o1 e1 => (Heap.get?_update_other _ _ (Ne.symm ne)).trans e1) fun h' e k he => ?_
  obtain ⟨oe, hoe, hce⟩ := he
  refine wpAny_bind (wpAny_isInstance (T := "StopIteration") (b := true) ⟨oe, hoe, hce⟩ isSubtype_stop ?_)
  exact wpAny_pure (hQ _ fun b ob hb eb => k b ob ((Heap.get?_update_other _ _ (Ne.symm hb)).trans eb))
theorem unpack_hot {t : Addr} {items : Array Value} {targets : List (Bool × (Value → Sem Unit))} {Q : Unit → Shared → Prop} (c : HotAt A x1 s.heap) (ht : IsTup s.heap t items) (hn : targets.length = items.size) (hstar : targets.findIdx? (·.1) = none)
    (h : ∀ h', Heap.ExtBut s.heap.objs.size s.heap h' → wpAny (model prog w) A (assignInOrder (targets.map (·.2)) items.toList) Q E { s with heap := h' }) : wpAny (model prog w) A (unpack (.ref t) targets) Q E s := by
  have hlt : t ≠ s.heap.objs.size := by
    obtain ⟨o, ho, _⟩ := ht
    exact Nat.ne_of_lt (Heap.lt_size ho)
  unfold unpack
  rw [hn, hstar]
  refine wpAny_bind (wpAny_holding ?_)
  unfold unpackItems
  refine wpAny_bind ?_
  unfold notIterableAtAll
  refine wpAny_bind (wpAny_specialOf ht.typeIs slot_tuple_iter.lookup (wpAny_pure ?_))
  simp only [Bool.false_eq_true, if_false]
  refine wpAny_bind (wpAny_holding (iter_tuple ht (wpAny_bind (wpAny_holding (draw_tuple hlt items.size 0 _ _ ⟨_, Heap.get?_push_size _ rfl, rfl, rfl⟩ (ht.push _) (by omega) fun h₁ hit₁ hs₁ => ?_)))))
  rw [show List.take items.size (List.drop 0 items.toList) = items.toList from by rw [List.drop_zero]; exact List.take_of_length_le (by simp), if_neg (by simp)]
  have hx1 : HotAt A x1 h₁ := HotAt.keep c fun o e => hs₁.extBut _ _ (Nat.ne_of_lt (Heap.lt_size e)) (Heap.get?_push_of_some _ e)
  refine wpAny_bind (wpAny_holding (tuple_end_hot hx1 hit₁ ((ht.push _).extBut hs₁.extBut hlt) (by simp) fun h₂ he₂ => ?_))
  simp only [Option.isSome_none, Bool.false_eq_true, if_false]
  exact wpAny_pure (h h₂ fun b o hb e => he₂ b o hb (hs₁.extBut b o hb (Heap.get?_push_of_some _ e)))
end
/-! ## rules in a context that bears the handled exception -/
open L2 L2H
/-- wherever the context's state is, x1 is the exception that is handled -/
def HotX (X : Cx) : Prop := ∃ x1, ∀ (pins : List (Addr × Obj)) (σ : L2.St) (H : Hp) (s : Shared), L2.Inv X pins σ H s → HotAt X.A x1 s.heap
theorem hotX_of {X : Cx} (c : HotC X) : HotX X := by
  obtain ⟨p, ⟨hh, v1, e1, c1⟩, hp⟩ := c
  exact ⟨p.1, fun pins σ H s I => ⟨hh, p.2, v1, (I.pin p (List.mem_append_left _ hp)).1, e1, c1⟩⟩
theorem hotX_blk {X : Cx} {pins : List (Addr × Obj)} {σ : L2.St} {H : Hp} {s : Shared} (c : HotC X) (I : L2.Inv X pins σ H s) {scope : Scope} {cenv : PySem.Env} {fp : List Addr} (hf : ∀ b ∈ fp, FpOk X pins H b) : HotX (X.blk s H scope cenv fp) := by
  obtain ⟨p, ⟨hh, v1, e1, c1⟩, hp⟩ := c
  have P1 := I.pin p (List.mem_append_left _ hp)
  refine ⟨p.1, fun pins' σ' H' s' I' => ⟨hh, p.2, v1, I'.base.keep p.1 p.2 P1.1 P1.2.1 (fun hm => ?_) (fun hm => ?_), e1, c1⟩⟩
  · exact (List.mem_cons.mp (I.stkSub p.1 hm)).elim P1.2.2.1 P1.2.2.2.1
  · exact (hf p.1 hm).2.2.2.2.2 p (List.mem_append_left _ hp) rfl
section
variable {X : Cx} {pos : Pos}
theorem pg_tupH {es : List Expr} {k : Nat} {t : TGs} {n : Nat} (c : HotX X) (h : PGs X es t) (hn : (assignEach es X.env).length = n := by rfl) (hst : (assignEach es X.env).findIdx? (·.1) = none := by rfl) : PG X (.Tuple es k pos) (gTup X.K n t) := by
  obtain ⟨x1, c⟩ := c
  refine ⟨fun pins s σ H v u Q I r hw => ?_⟩
  obtain ⟨a, xs, e1, hq, hl, hw⟩ := hw
  subst e1
  cases r
  obtain ⟨its, rv, ht, hz⟩ := I.tuple hq
  rw [assign_Tuple]
  refine wpAny_bind (wpAny_standAt (unpack_hot (c pins σ H s I) ht (by simp [hn, ← hl, rv.length]) hst fun h' hx => ?_))
  have I1 : L2.Inv X pins σ H { s with heap := h' } := I.kept (t' := s.toks) fun b o e => hx b o (Nat.ne_of_lt (Heap.lt_size e)) e
  exact h.run pins _ σ H xs _ Q I1 (by simpa using rv) hw
end
/-- an iterator's turns, in the contexts that c tells -/
structure TurnC (c : Cx → Prop) (P : Program) (w : World) (K : PySem.W.Frag) (tg : Expr) (J : It) (fp : List Addr) (it : Addr) (tn : Nat → Heap → Prop) : Prop where
  obj : ∀ i h, tn i h → ∀ b ∈ fp, ∃ o, h.get? b = some o ∧ ∀ v, o.data ≠ .cell v
  keep : ∀ i h h', tn i h → (∀ b ∈ fp, ∀ o, h.get? b = some o → h'.get? b = some o) → tn i h'
  item : ∀ (X : Cx), X.prog = P → X.w = w → X.K = K → c X → ∀ (i : Nat) (pins : List (Addr × Obj)) (s : Shared) (σ : L2.St) (H : Hp) (E : Value → Shared → Prop), L2.Inv X pins σ H s → (∀ b ∈ fp, FpOk X pins H b) → tn i s.heap → J.go i H →
    wpAny (model P w) X.A (pyNext (.ref it)) (fun r s1 => ∃ u, r = some u ∧
      wpAny (model P w) X.A (letOwnedTupleGo tg (.ref it) u) (fun _ s2 => ∃ x H', L2.Inv X pins σ H' s2 ∧ L2.RelV x u ∧ J.yld i H x H' ∧ tn (i + 1) s2.heap ∧ ∀ b ∈ fp, H' b = none) E s1) E s
  done : ∀ (X : Cx), X.prog = P → X.w = w → X.K = K → c X → ∀ (i : Nat) (pins : List (Addr × Obj)) (s : Shared) (σ : L2.St) (H : Hp) (E : Value → Shared → Prop), L2.Inv X pins σ H s → (∀ b ∈ fp, FpOk X pins H b) → tn i s.heap → J.stop i H →
    wpAny (model P w) X.A (pyNext (.ref it)) (fun r s1 => r = none ∧ L2.Inv X pins σ H s1) E s
  self : ∀ (A : Around) (i : Nat) (s : Shared) (Q : Value → Shared → Prop) (E : Value → Shared → Prop), tn i s.heap → Q (.ref it) s → wpAny (model P w) A (pyIter (.ref it)) Q E s
/-- the lists at a and b side by side; it ends where the first one ends -/
def ItzH (K : PySem.W.Frag) (a b : Addr) : It :=
  ⟨(Itz K a b).go, (Itz K a b).yld, fun i H => ∃ xs : List V, L2.SqL K H a xs ∧ xs.length ≤ i⟩
theorem turn_zipH {P : Program} {w : World} {K : PySem.W.Frag} {elts : List Expr} {kk : Nat} {tpos : Pos} {a b z TI TO i1 i2 : Addr} (D : ZipApart z TI TO i1 i2 a b) :
    TurnC HotX P w K (.Tuple elts kk tpos) (ItzH K a b) [z, TI, TO, i1, i2] z (fun i h => IsZip h z TI TO .none ∧ IsPair h TI (.ref i1) (.ref i2) ∧ (∃ x y, IsPair h TO x y) ∧ h.IsListIter i1 a i ∧ h.IsListIter i2 b i) where
  obj := (turn_zip (P := P) (w := w) (K := K) (elts := elts) (kk := kk) (tpos := tpos) D).obj
  keep := (turn_zip (P := P) (w := w) (K := K) (elts := elts) (kk := kk) (tpos := tpos) D).keep
  self := (turn_zip (P := P) (w := w) (K := K) (elts := elts) (kk := kk) (tpos := tpos) D).self
  item := by
    intro X hP hw hK _ i pins s σ H E I hf st hg
    subst hP hw hK
    obtain ⟨hz, hTI, ⟨x0, y0, hTO⟩, h1, h2⟩ := st
    obtain ⟨xs, ys, x, y, hqx, hqy, hx, hy⟩ := hg
    obtain ⟨its, rv, p, _⟩ := I.list hqx
    obtain ⟨its2, rv2, p2, _⟩ := I.list hqy
    obtain ⟨u, hu, ru⟩ := rv.get hx
    obtain ⟨u2, hu2, ru2⟩ := rv2.get hy
    have at_ : ∀ c ∈ [z, TI, TO, i1, i2], c < s.heap.objs.size := fun c hc => by
      obtain ⟨o, e, _⟩ := (turn_zip (P := X.prog) (w := X.w) (K := X.K) (elts := elts) (kk := kk) (tpos := tpos) D).obj i s.heap ⟨hz, hTI, ⟨x0, y0, hTO⟩, h1, h2⟩ c hc
      exact Heap.lt_size e
    refine wpAny_pyNext_zip_item D hz hTI hTO h1 h2 p.isList p2.isList (x := u) (y := u2) (by simpa using hu) (by simpa using hu2) fun h' z' TO' h1' h2' hT hsz hk => ⟨_, rfl, wpAny_letOwnedTupleGo_zip (s := { s with heap := h' }) z' fun h'' z'' sb => ?_⟩
    have off : ∀ c o, c ∉ [z, TI, TO, i1, i2] → s.heap.get? c = some o → h''.get? c = some o := fun c o hc q => by
      simp only [List.mem_cons, List.not_mem_nil, or_false, not_or] at hc
      exact (sb.2 c hc.1).trans (hk c o hc.1 hc.2.2.1 hc.2.2.2.1 hc.2.2.2.2 q)
    have hT2 : h''.get? s.heap.objs.size = some { cls := .type "tuple", data := .seq #[u, u2] } := (sb.2 _ (Nat.ne_of_gt (at_ z (by simp)))).trans hT
    refine ⟨.ref s.heap.objs.size, _, I.turnedNew (t' := s.toks) (ch := [z, TI, TO, i1, i2]) off hf (Nat.le_refl _) (ob := .tup [x, y]) ⟨by show 2 ≤ sizeLine; decide, [u, u2], .cons ru (.cons ru2 .nil), ⟨_, hT2, rfl, _, rfl⟩⟩, rfl,
      ⟨_, x, y, rfl, I.hok.fresh (Nat.le_refl _), rfl, fun l hl => by rw [I.list_inj hl hqx]; exact hx, fun l hl => by rw [I.list_inj hl hqy]; exact hy⟩,
      ⟨z'', (sb.2 _ D.TIz).trans (hk _ _ D.TIz D.TITO D.TIi1 D.TIi2 hTI), ⟨u, u2, (sb.2 _ D.TOz).trans TO'⟩, h1'.at fun o q => (sb.2 _ D.i1z).trans q, h2'.at fun o q => (sb.2 _ D.i2z).trans q⟩, fun c hc => ?_⟩
    rw [upd_ne (Nat.ne_of_lt (at_ c hc))]
    exact (hf c hc).1
  done := by
    intro X hP hw hK hX i pins s σ H E I hf st hg
    subst hP hw hK
    obtain ⟨x1, hX⟩ := hX
    obtain ⟨hz, hTI, ⟨x0, y0, hTO⟩, h1, h2⟩ := st
    obtain ⟨xs, hqx, hend⟩ := hg
    obtain ⟨its, rv, p, _⟩ := I.list hqx
    have l1 := rv.length
    exact zip_end_hot (hX pins σ H s I) D hz hTI h1 p.isList (by simp; omega) fun h' hk => ⟨rfl, I.turnedL (t' := s.toks) (ch := [z, TI, TO, i1, i2]) (fun c o hb q => hk c o (fun q' => hb (by simp [q'])) (fun q' => hb (by simp [q'])) q) hf⟩
structure PIH (X : Cx) (tg iter : Expr) (wi : TI) : Prop where
  run : ∀ (pins : List (Addr × Obj)) (s : Shared) (σ : L2.St) (H : Hp) (R : It → Hp → Prop), L2.Inv X pins σ H s → wi σ H R →
    wpAny (model X.prog X.w) X.A (eval iter X.env) (fun v s1 => wpAny (model X.prog X.w) X.A (pyIter v) (fun itv s2 => ∃ (it : Addr) (fp : List Addr) (tn : Nat → Heap → Prop) (J : It) (H' : Hp), itv = .ref it ∧ L2.Inv X pins σ H' s2 ∧ TurnC HotX X.prog X.w X.K tg J fp it tn ∧ tn 0 s2.heap ∧ (∀ b ∈ fp, FpOk X pins H' b) ∧ R J H') X.xe s1) X.xe s
def iZipH (K : PySem.W.Frag) (ta : TA) : TI := fun σ H R => ta σ H fun vs H1 => ∃ a b xs ys, vs = [.ref a, .ref b] ∧ L2.SqL K H1 a xs ∧ L2.SqL K H1 b ys ∧ R (ItzH K a b) H1
theorem pi_zipH {X : Cx} {e e2 : Expr} {ta : TA} {p pos tpos : Pos} {elts : List Expr} {kk : Nat} (hg : Gl X "zip") (hm : X.mg "zip" = none) (ha : PA X [e, e2] ta) (hs : starEach [e, e2] X.env = (false, eval e X.env) :: starEach [e2] X.env := by rfl) (hpl : (backTo pos (starEach [e2] X.env)).any (·.1) = false := by rfl) :
    PIH X (.Tuple elts kk tpos) (.Call (.Name "zip" p) [e, e2] [] pos) (iZipH X.K ta) := by
  refine ⟨fun pins s σ H R I h => Call_ (ld_blt I hg hm PyProof.Rows.boot_zip (PyProof.Rows.callWith_type1 (thn (ha.run pos pins s σ H _ I h) fun us s1 ⟨vs, H1, I1, r1, a, b, xs, ys, ex, hqx, hqy, q⟩ => ?_) hs hpl))⟩
  subst ex
  obtain ⟨u1, u2, rfl, r2, r3⟩ := vals2 r1
  cases r2
  cases r3
  obtain ⟨its, rv, p1, _⟩ := I1.list hqx
  obtain ⟨its2, rv2, p2, _⟩ := I1.list hqy
  refine call_zip_2 p1.isList p2.isList fun h' hz hTI hTO h1 h2 hsz hk => wpAny_pyIter_zip hz ?_
  refine ⟨s1.heap.objs.size + 4, [s1.heap.objs.size + 4, s1.heap.objs.size + 2, s1.heap.objs.size + 3, s1.heap.objs.size, s1.heap.objs.size + 1], _, _, H1, rfl, I1.kept (t' := s1.toks) hk, turn_zipH (PySem.W.ktu_apart s1.heap.objs.size a b p1.lt p2.lt), ⟨hz, hTI, ⟨_, _, hTO⟩, h1, h2⟩, fun c hc => ?_, q⟩
  have hle : s1.heap.objs.size ≤ c := by
    simp only [List.mem_cons, List.not_mem_nil, or_false] at hc
    rcases hc with q | q | q | q | q <;> (rw [q]; first | exact Nat.le_add_right _ _ | exact Nat.le_refl _)
  exact I1.fpOk hle (I1.hok.fresh hle)
/-- a list comprehension while an exception is handled -/
theorem pe_lcH {X : Cx} {elt tg iter : Expr} {ifs : List Expr} {scope : Scope} {own : List (Str × Nat)} {pos : Pos} {wi : TI} {g : TG} {tt : TT} {te : TE} (hc : HotC X) (hN : X.N.Nodup) (hi : PIH X tg iter wi) (ok : BlkOk X.N X.env.scope scope own)
    (hg : ∀ (s : Shared) (H : Hp) (C : Addr) (cl : List (Str × Addr)) (fp : List Addr), HotX (X.blk s H scope (compEnvC scope cl C X.env) fp) → PG (X.blk s H scope (compEnvC scope cl C X.env) fp) tg g)
    (ht : ∀ (s : Shared) (H : Hp) (C : Addr) (cl : List (Str × Addr)) (fp : List Addr), PTs (X.blk s H scope (compEnvC scope cl C X.env) fp) ifs tt)
    (he : ∀ (s : Shared) (H : Hp) (C : Addr) (cl : List (Str × Addr)) (fp : List Addr), PE (X.blk s H scope (compEnvC scope cl C X.env) fp) elt te) (hs : ∀ x, foldedSetIterable iter X.env x = pure x := by intro _; rfl) :
    PE X (.ListComp elt [⟨tg, iter, ifs, 0⟩] scope pos) (tLc wi g tt te (own.map (·.2))) := by
  refine ⟨fun pins s σ H Q I h => ?_⟩
  rw [eval_ListComp]
  have hfree : ∀ y ∈ scope.names, y.2 = .free → ∃ c, X.env.cells.lookup y.1 = some c := fun y hy e => (ok.free y hy e).elim (fun k => I.ok.has _ (.inl k)) fun k => I.ok.has _ (.inr k)
  refine wpAny_comprehension_free (use := none) rfl hs (closure_ok hfree) ok.kind (fun y hy e => by rw [ok.uniq y hy, e]) (thn (hi.run pins s σ H _ I h) fun xv s1 hx => thn hx fun itv s2 ⟨it, fp, tn, J, H2, e, I2, T, st2, f2, q⟩ => ?_)
  subst e
  refine wpAny_newObj_type (newEnv_comp ?_) (by show 0 ≤ sizeLine; decide)
  generalize hD : s2.heap.objs.size = D
  have hDn : H2 D = none := I2.hok.fresh (Nat.le_of_eq hD)
  obtain ⟨W, ⟨m0, w0⟩, turn⟩ := q D hDn
  generalize hs3 : ({ s2 with heap := s2.heap.push { cls := .type "list", data := .seq ([] : List Value).toArray } } : Shared) = s3
  have h3 : s3.heap = s2.heap.push { cls := .type "list", data := .seq ([] : List Value).toArray } := by rw [← hs3]
  have I3 : L2.Inv X pins σ (upd H2 D (.lst [])) s3 := by
    rw [← hs3]
    exact I2.laid (t' := s2.toks) (fun b o e => Heap.get?_push_of_some _ e) (Nat.le_of_eq hD) ⟨Nat.zero_le _, [], 0, .nil, by rw [← hD]; exact Heap.get?_push_size _ rfl⟩
  have f3 : ∀ b ∈ fp, FpOk X pins (upd H2 D (.lst [])) b ∧ b < s3.heap.objs.size := fun b hb => by
    obtain ⟨o, e, _⟩ := T.obj _ _ st2 b hb
    have hlt := Heap.lt_size e
    exact ⟨⟨by rw [upd_ne (by rw [← hD]; exact Nat.ne_of_lt hlt)]; exact (f2 b hb).1, (f2 b hb).2⟩, by rw [h3, Heap.size_push]; exact Nat.lt_succ_of_lt hlt⟩
  have st3 : tn 0 s3.heap := T.keep _ _ _ st2 fun b _ o e => by rw [h3]; exact Heap.get?_push_of_some _ e
  have I4 := block_start I3 ok hN f3
  have hot := hotX_blk hc I3 (scope := scope) (cenv := compEnvC scope (cellsFrom (s3.heap.objs.size + 1) scope.names (cloFrom X.env.cells scope.names [])) s3.heap.objs.size X.env) (fp := fp) fun b hb => (f3 b hb).1
  have pg := hg s3 (upd H2 D (.lst [])) s3.heap.objs.size (cellsFrom (s3.heap.objs.size + 1) scope.names (cloFrom X.env.cells scope.names [])) fp hot
  have pt := ht s3 (upd H2 D (.lst [])) s3.heap.objs.size (cellsFrom (s3.heap.objs.size + 1) scope.names (cloFrom X.env.cells scope.names [])) fp
  have pe := he s3 (upd H2 D (.lst [])) s3.heap.objs.size (cellsFrom (s3.heap.objs.size + 1) scope.names (cloFrom X.env.cells scope.names [])) fp
  show codeAny _ _ (.compStart (.ListComp elt [⟨tg, iter, ifs, 0⟩] scope pos) 0 (.ref it) (.ref D) (compEnvC scope (cellsFrom (s3.heap.objs.size + 1) scope.names (cloFrom X.env.cells scope.names [])) s3.heap.objs.size X.env)) (compPost (model X.prog X.w) X.A X.xe none (EP X pins σ Q) (.ref D) s3.heap.objs.size) { s3 with heap := pushCells (s3.heap.push { cls := .type "dict", data := .dict #[] }) scope.names }
  have nfp : ∀ b ∈ fp, (upd H2 D (.lst [])) b = none := fun b hb => (f3 b hb).1.1
  generalize hce : compEnvC scope (cellsFrom (s3.heap.objs.size + 1) scope.names (cloFrom X.env.cells scope.names [])) s3.heap.objs.size X.env = ce at I4 pg pt pe hot ⊢
  have cL : ce.locals = s3.heap.objs.size := by subst hce; rfl
  generalize hH3 : upd H2 D (.lst []) = H3 at I3 I4 pg pt pe hot w0 nfp f3
  generalize hs4 : ({ s3 with heap := pushCells (s3.heap.push { cls := .type "dict", data := .dict #[] }) scope.names } : Shared) = s4 at I4 ⊢
  have st4 : tn 0 s4.heap := T.keep _ _ _ st3 fun b _ o e => by rw [← hs4]; exact pushCells_keeps _ _ _ _ (Heap.get?_push_of_some _ e)
  have stat : ∀ {σ' : L2.St} {H' : Hp} {s' : Shared}, L2.Inv (X.blk s3 H3 scope ce fp) [] σ' H' s' → (∀ b ∈ fp, H' b = none) → ∀ b ∈ fp, FpOk (X.blk s3 H3 scope ce fp) [] H' b := fun I' hn b hb =>
    ⟨hn b hb, (I'.ok.exf b hb).1, I'.ok.exfs b hb, .inl hb, (I'.ok.exf b hb).2, fun p hp => absurd (show p ∈ ([] : List (Addr × Obj)) ++ [] from hp) (by simp)⟩
  have loop : codeAny (model X.prog X.w) X.A (.compLoop (.ListComp elt [⟨tg, iter, ifs, 0⟩] scope pos) 0 (.ref it) (.ref D) ce) (compPost (model X.prog X.w) X.A X.xe none (EP X pins σ Q) (.ref D) s3.heap.objs.size) s4 := by
    refine compLoop_any (fun n s' => ∃ i H', L2.Inv (X.blk s3 H3 scope ce fp) [] (wipe σ (own.map (·.2))) H' s' ∧ tn i s'.heap ∧ (∀ b ∈ fp, H' b = none) ∧ W i n H') ?_ m0 ⟨0, H3, I4, st4, nfp, w0⟩
    rintro n s5 ⟨i, H5, I5, st5, n5, w5⟩
    rcases turn i n H5 w5 with ⟨stop, qq⟩ | ⟨go, Nx, hNx, step⟩
    · refine thnF (T.done (X.blk s3 H3 scope ce fp) rfl rfl rfl hot i [] s5 _ H5 (fun _ _ => False) I5 (stat I5 n5) st5 stop) fun r s6 ⟨hr, I6⟩ => ?_
      subst hr
      obtain ⟨m, hn, _⟩ := I6.loc
      have hn : s6.heap.Ns ce.locals m := hn
      have nC : H5 ce.locals = none := I6.free
      rw [cL] at hn nC
      obtain ⟨f0, f1, f4, f5, f6, f7⟩ := I3.fpOk (Nat.le_refl _) nC
      have I7 : L2.Inv X pins σ H5 s6 := I3.call' (ch := fp) I6.os I6.base I6.hok I6.bare fun b hb => ⟨(f3 b hb).1.2.2.2.1, (f3 b hb).1.2.1, (f3 b hb).1.2.2.2.2.1, (f3 b hb).1.2.2.2.2.2⟩
      exact ⟨m, hn, fun h'' sb => ⟨.ref D, H5, I7.turned (t' := s6.toks) (fun b o hb e => (sb.2 b hb).trans e) f0 f1 f5 f6 f7, rfl, qq⟩⟩
    · refine thnF (T.item (X.blk s3 H3 scope ce fp) rfl rfl rfl hot i [] s5 _ H5 (fun _ _ => False) I5 (stat I5 n5) st5 go) fun r s6 ⟨u, hr, h6⟩ => ?_
      subst hr
      refine thnF h6 fun _ s7 ⟨x, H7, I7, r7, y7, st7, n7⟩ => ?_
      refine thnF (pg.run _ s7 _ H7 x u _ (I7.pinned (stat I7 n7) (T.obj _ _ st7)) r7 (step x H7 y7)) fun _ s8 ⟨σ8, H8, I8, hw8, q8⟩ => ?_
      refine thnF (pt.run _ s8 σ8 H8 _ I8 q8) fun b s9 ⟨H9, I9, q9⟩ => ?_
      have fin : ∀ {s' : Shared} {H' : Hp}, L2.Inv (X.blk s3 H3 scope ce fp) ([] ++ pinsAt fp s7.heap) σ8 H' s' → Nx H' → ∃ m, m < n ∧ ∃ i H', L2.Inv (X.blk s3 H3 scope ce fp) [] (wipe σ (own.map (·.2))) H' s' ∧ tn i s'.heap ∧ (∀ b ∈ fp, H' b = none) ∧ W i m H' := fun {s' H'} I' nx => by
        obtain ⟨m', hm, w'⟩ := hNx H' nx
        have pin' : ∀ b ∈ fp, ∀ o, s7.heap.get? b = some o → s'.heap.get? b = some o ∧ H' b = none := fun b hb o e => by
          obtain ⟨z1, z2, _⟩ := I'.pin (b, o) (List.mem_append_right _ (List.mem_append_right _ (mem_pinsAt hb e)))
          exact ⟨z1, z2⟩
        refine ⟨m', hm, i + 1, H', (I'.unpinned (pins := [])).weak (by rw [← hw8, wipe_length]) (fun j v e => ?_), T.keep _ _ _ st7 fun b hb o e => (pin' b hb o e).1, fun b hb => ?_, w'⟩
        · rw [← hw8] at e
          exact (wipe_some e).1
        · obtain ⟨o, e, _⟩ := T.obj _ _ st7 b hb
          exact (pin' b hb o e).2
      cases b with
      | false =>
        simp only [Bool.false_eq_true, if_false] at q9 ⊢
        exact fin I9 q9
      | true =>
        simp only [if_true] at q9 ⊢
        refine thnF (pe.run _ s9 σ8 H9 _ I9 q9) fun z s10 ⟨yv, H10, I10, r10, acc, hD10, hz10, nx⟩ => ?_
        exact app_ok (X := X.blk s3 H3 scope ce fp) I10 hD10 hz10 r10 fun s11 I11 => fin I11 nx
  exact codeAny_compStart_list loop (T.self X.A 0 _ _ _ st4 loop)
end Hot
end DL

namespace DL
open PySem PySem.Spec PyProof.Rows L2
/-! ## raise -/
/-- a class of errors of the program -/
structure ExcT (K : PySem.W.Frag) (mg : Str → Option Value) (x : Str) (C : Addr) : Prop where
  g : mg x = some (.ref C)
  ex : PySem.W.excIn K C [.type "ValueError", .type "Exception", .type "BaseException", .type "object"] "ValueError.__new__" = true
  kp : PySem.W.keepIn K (.ref C) = true
  sb : PySem.W.subIn K (.ref C) (.type "BaseException") = some true
  ty : PySem.W.typeIn K (.ref C) = some (.type "type")
def sRaise (x : Str) : En → M Fl := fun _ s => .er x s
theorem ds_raise {X : Cx} {E : XK} {k : Nat} {x m : Str} {C : Addr} {j : Nat} {p p2 p3 pos : Pos} (C0 : Ctl X E k) (T : ExcT X.K X.mg x C) (hg : Gl X x := by rfl) (hdb : (x == ("__debug__" : Str)) = false := by decide) :
    DS X E (.Raise (some (.Call (.Name x p) [.Constant (.str m) j p2] [] p3)) none pos) (sRaise x) :=
  (L2N.ps_raise C0.calm C0.tk (L2N.pmk_own PySem.F.excBase_ValueError T.ex T.g T.kp (raises_own T.sb T.ty) hg hdb)).imp fun Z σ H ⟨ρ, w, e, ok, re, h⟩ => by
    subst e
    exact h C w T.g (Wd.le.refl w) ok rfl
/-! ## a greater heap -/
theorem Wd.Ok.more {K : PySem.W.Frag} {w : Wd} (k : w.Ok K) {H' : Hp} (e : ∀ b o, w.H b = some o → H' b = some o) : (⟨w.I, w.L, w.Z, w.s, H'⟩ : Wd).Ok K ∧ w.le ⟨w.I, w.L, w.Z, w.s, H'⟩ := by
  have same : ∀ a, (∃ o, w.H a = some o) → w.H a = H' a := fun a ⟨o, q⟩ => q.trans (e a o q).symm
  refine ⟨⟨fun a o q => e a o (k.fr a o q), k.len, fun n a c e1 e2 => ?_, k.dead, k.inj, fun a ha => ?_, k.nt, fun a ha o q => k.zo a ha o ((same a (k.zz a ha).2.2).trans q), fun n x q e a ha ps z => k.zt n x q e a ha ps ((same a (k.zz a ha).2.2).trans z)⟩, ⟨fun _ _ q => q, List.prefix_rfl, rfl, fun a ha => ?_⟩⟩
  · obtain ⟨c1, c2⟩ := k.cell n a c e1 e2
    exact ⟨c1, c2.mono (fun _ _ q => q) List.prefix_rfl (same a c2.there)⟩
  · obtain ⟨z1, z2, u, hu⟩ := k.zz a ha
    exact ⟨z1, z2, u, e a u hu⟩
  · obtain ⟨_, _, u, hu⟩ := k.zz a ha
    exact (same a ⟨u, hu⟩).symm
/-! ## a lambda without parameters -/
/-- the context of a lambda's body -/
def lamN (X : Cx) (A : Around) (outer : List PySem.Env) (s : Shared) (H : Hp) (E : XK) (scope : Scope) (f c' : Addr) : Cx :=
  { LamX.lamCx X A outer s H E scope f c' with
    xe := fun e s' => wpAny (model X.prog X.w) (A.deeper (LamX.lamEnv X scope s.heap.objs.size f c')) (leaving (LamX.lamEnv X scope s.heap.objs.size f c') e) (fun _ s'' => L2N.CX X.prog X.w outer H s E e s'') (fun e' s'' => L2N.CX X.prog X.w outer H s E e' s'') s' }
theorem ctl_lam {X : Cx} {E0' : XK} {k0 k : Nat} (C0 : Ctl X E0' k0) {A : Around} {outer : List PySem.Env} {s : Shared} {H : Hp} {E : XK} {scope : Scope} {f c' : Addr} (hr : Room k (A.deeper (LamX.lamEnv X scope s.heap.objs.size f c'))) :
    Ctl (lamN X A outer s H E scope f c') E k :=
  ⟨rfl, C0.nd, passes_of rfl, L2N.takes_of rfl rfl rfl rfl, hr⟩
section
variable {X : Cx} {pins : List (Addr × Obj)} {σ : L2.St} {H : Hp} {s : Shared}
/-- a() in the def that got the lambda: what is wished of an exception may tell the slots at the call -/
theorem pe_actN {CXg : CXT} {Eg : XK} {Ng : List Str} {qg : Str} {sg : Scope} {g f c' : Addr} {cdg pm ctv : Value} {params : Arguments} {body : Expr} {scope : Scope} {k i : Nat} {a : Str} {pn : List (Addr × Obj)} {xe : Value → Shared → Prop} {W : WX} {tb : XK → TE} {p1 p2 : Pos}
    (I : L2.Inv X pins σ H s) (L : LamX.LamS X.env.scope scope) (hf : s.heap.get? f = some (PySem.W.kla_obj "<lambda>" (X.env.qual ++ "<lambda>") params body scope (cloFrom X.env.cells scope.names []) pm c' ctv)) (hfn : H f = none) (hfr : f ∉ frs X.stack)
    (hbind : bindArgs (PySem.W.kla_fn "<lambda>" (X.env.qual ++ "<lambda>") params body scope (cloFrom X.env.cells scope.names []) pm (.ref c') ctv) ⟨[], []⟩ = pure [])
    (tk : L2N.Takes ((cxOf CXg X.prog X.w X.K X.mg X.base Ng qg sg g cdg X.A X.stack s H Eg).tr pn xe) W) (hr : Room (k + 1) (X.A.deeper (envOfC qg sg s.heap.objs.size g cdg)))
    (hbody : ∀ (A : Around) (outer : List PySem.Env) (s : Shared) (H : Hp) (E : XK), Room k (A.deeper (LamX.lamEnv X scope s.heap.objs.size f c')) → PE (lamN X A outer s H E scope f c') body (tb E))
    (hN : Ng[i]? = some a) (hv : Vis sg a) (hd : (a == ("__debug__" : Str)) = false := by decide) (hcd : (a == ("__classdict__" : Str)) = false := by decide) :
    PE ((cxOf CXg X.prog X.w X.K X.mg X.base Ng qg sg g cdg X.A X.stack s H Eg).tr pn xe) (.Call (.Name a p1) [] [] p2)
      (fun σZ HZ Q => σZ[i]? = some (some (.ref f)) ∧ HZ c' = some (LamX.CodeO c' (X.env.qual ++ "<lambda>")) ∧ tb (fun cls d H' => W cls d σZ H') σ HZ Q) := by
  refine ⟨fun pinsZ sZ σZ HZ Q IZ h => ?_⟩
  obtain ⟨hs, hc, ht⟩ := h
  refine wpAny_Call_Name_kw (thn ((pe_var (pos := p1) (i := i) hN hv hd hcd).run pinsZ sZ σZ HZ (fun v H1 => v = .ref f ∧ H1 = HZ) IZ ⟨.ref f, hs, rfl, rfl⟩) fun u s1 ⟨v, H1, I1, r1, ev, eH⟩ => ?_)
  subst ev
  rw [eH] at I1
  obtain rfl : u = Value.ref f := r1
  have of1 := I1.base.keep f _ hf hfn hfr (fun z => nomatch (show f ∈ ([] : List Addr) from z))
  refine PySem.W.callWith_F0 ⟨_, _, _, _, of1⟩ ?_
  obtain ⟨⟨oc, vs, t, hoc, hdc, hvc⟩, _, _⟩ := I1.hok c' _ hc
  have rc : codeAny (model X.prog X.w) (X.A.deeper (envOfC qg sg s.heap.objs.size g cdg)) (.call (.ref f) ⟨[], []⟩) (CR (L2N.CX X.prog X.w) (envOfC qg sg s.heap.objs.size g cdg :: X.stack) X.prog X.w HZ s1 Q (fun cls d H' => W cls d σZ H')) s1 := by
    refine PySem.W.kla_callFunE hr.depth of1 rfl L.co L.gen rfl ⟨c', oc, vs, t, rfl, hoc, hdc, hvc⟩ ?_
    rw [hbind]
    refine wpAny_pure (wpAny_newFunctionEnv (fun y hy => (L.own y hy).2) (fun y hy => absurd hy (by simp)) (fun h₁ hns hsb => ⟨I1.nolimit.fresh _ hsb, ?_⟩) L.kind)
    show codeAny _ _ (.expr body (LamX.lamEnv X scope s1.heap.objs.size f c')) _ _
    have kp : ∀ b o, s1.heap.get? b = some o → h₁.get? b = some o := fun b o e => hsb.extBut b o (Nat.ne_of_lt (Heap.lt_size e)) (Heap.get?_push_of_some _ e)
    have J0 : L2.Inv (LamX.lamCx X (X.A.deeper (envOfC qg sg s.heap.objs.size g cdg)) (envOfC qg sg s.heap.objs.size g cdg :: X.stack) s1 HZ (fun cls d H' => W cls d σZ H') scope f c') [] σ HZ { s1 with heap := h₁, toks := s1.toks + ([] : List (Str × Value)).length } :=
      LamX.lam_start2 I L I1.env0 hr.hd I1.base hns kp
    have J : L2.Inv (lamN X (X.A.deeper (envOfC qg sg s.heap.objs.size g cdg)) (envOfC qg sg s.heap.objs.size g cdg :: X.stack) s1 HZ (fun cls d H' => W cls d σZ H') scope f c') [] σ HZ { s1 with heap := h₁, toks := s1.toks + ([] : List (Str × Value)).length } := J0.wish _
    refine PySem.W.kla_codeExpr (wpAny_mono ((hbody _ _ s1 HZ _ (hr.deeper _)).run [] _ _ HZ Q J ht) (fun v s' hq => ?_) fun e s' hq => hq)
    obtain ⟨w', H', J', rv, q⟩ := hq
    exact ⟨w', H', J'.os, J'.bare, J'.base, J'.hok, rv, q⟩
  have hx := L2N.passAt tk σZ
  refine wpAny_call (codeAny_mono rc fun r s' hq => ?_)
  cases r with
  | error e => exact hx pinsZ HZ s1 e s' I1 hq
  | ok fl =>
    cases fl with
    | ret u => exact I1.after hq
    | next => exact False.elim hq
    | brk => exact False.elim hq
    | cont => exact False.elim hq
end
/-! ## isinstance of the exception that is handled -/
section
variable {X : Cx} {a D : Addr} {oe : Obj}
theorem call_isH (T : ExcC X.K D) (hp : (a, oe) ∈ X.pn) (hz : Zc (.ref D) none oe) (hf : ∃ vs, oe.data = .fields vs) : CallR X (.builtin "isinstance") (rIsE X.K D a) := by
  intro pins s σ H xs us Q I r ⟨c, cv, b, ex, hcv, e, q⟩
  subst ex
  obtain ⟨u1, u2, rfl, r1, r2⟩ := vals2 r
  cases r1
  have ec := hcv _ r2
  subst ec
  obtain ⟨hget, _⟩ := I.pin (a, oe) (List.mem_append_left _ hp)
  obtain ⟨vs, hv⟩ := hf
  have J : PySem.W.InstAt s.heap a oe D none := by
    obtain ⟨oc, od, oda, osl⟩ := oe
    obtain ⟨h1, h2⟩ := hz
    dsimp only at h1 h2 hv
    subst h1 h2 hv
    exact ⟨hget, rfl, rfl, trivial⟩
  exact PySem.W.kia_one (PySem.W.handS_kitx_exc T.hg T.hk T.hs T.hd T.ha T.hn T.ht T.hm) I.kIn J e (fun z => nomatch z) fun tk => ⟨.bl b, H, I.kept (t' := tk) fun _ _ z => z, rfl, q⟩
/-- isinstance(e, c): slot 0 holds the exception at a -/
def tIsE (a : Addr) (b : Bool) : TE := fun σ H Q => σ[0]? = some (some (.ref a)) ∧ Q (.bl b) H
theorem pe_isE {n c : Str} {C : Addr} {b : Bool} {p p2 p3 pos : Pos} (T : ExcC X.K D) (hp : (a, oe) ∈ X.pn) (hz : Zc (.ref D) none oe) (hf : ∃ vs, oe.data = .fields vs) (hm : X.mg "isinstance" = none) (hc : X.mg c = some (.ref C)) (hb : PySem.W.kitOne X.K (.ref D) (.ref C) = some b)
    (hN : X.N[0]? = some n := by rfl) (hv : Vis X.env.scope n := by first | exact Or.inl rfl | exact Or.inr (Or.inl rfl)) (hg : Gl X "isinstance" := by rfl) (hgc : Gl X c := by rfl) (hd : (n == ("__debug__" : Str)) = false := by decide) (hcd : (n == ("__classdict__" : Str)) = false := by decide) (hdc : (c == ("__debug__" : Str)) = false := by decide) :
    PE X (.Call (.Name "isinstance" p) [.Name n p2, .Name c p3] [] pos) (tIsE a b) :=
  (pe_callB (call_isH T hp hz hf) hg hm PyProof.Rows.boot_isinstance (pa_cons (pe_var (i := 0) hN hv hd hcd) (pa_cons (pe_glob (v := .ref C) hgc hc rfl hdc) pa_nil))).imp fun σ H Q ⟨h0, q⟩ =>
    ⟨.ref a, h0, .ref C, .ref C, b, rfl, fun u e => e, hb, q⟩
end
end DL

namespace DL
namespace Hot
open PySem PySem.Spec PyProof.Rows L2
/-- the words whose place says true -/
def sel (ws : List Str) (bs : List Bool) : List Str := (ws.zip bs).filterMap fun p => if p.2 = true then some p.1 else none
theorem sel_take {ws : List Str} {bs : List Bool} {i : Nat} {x : Str} {b : Bool} (h1 : ws[i]? = some x) (h2 : bs[i]? = some b) :
    ((ws.zip bs).take (i + 1)).filterMap (fun p => if p.2 = true then some p.1 else none) = ((ws.zip bs).take i).filterMap (fun p => if p.2 = true then some p.1 else none) ++ (if b = true then [x] else []) := by
  have hz : (ws.zip bs)[i]? = some (x, b) := List.getElem?_zip_eq_some.mpr ⟨h1, h2⟩
  rw [List.take_succ, hz, List.filterMap_append]
  cases b <;> rfl
abbrev tSel (K : PySem.W.Frag) : TE := tLc (iZipH K (tCons (tVar 2) (tCons (tVar 1) tNil))) (gTup K 2 (gCons (gName 3) (gCons (gName 4) gNil))) (tB (tVar 4)) (tVar 3) [3, 4]
/-- [word for word, good in zip(words, some) if good] -/
theorem sel_run {K : PySem.W.Frag} {ws : List Str} {bs : List Bool} {a p1 p2 : Addr} {H : Hp} {Q : VK} {s3 s4 : Option V} (hl : ws.length = bs.length) (hz : ws.length ≤ 1000) (h1 : H p1 = some (.lst (bs.map V.bl))) (h2 : H p2 = some (.lst (ws.map V.str)))
    (hQ : ∀ D H', (∀ b o, H b = some o → H' b = some o) → H' D = some (.lst ((sel ws bs).map V.str)) → Q (.ref D) H') : tSel K [some (.ref a), some (.ref p1), some (.ref p2), s3, s4] H Q := by
  refine ⟨.ref p2, rfl, .ref p1, rfl, p2, p1, ws.map V.str, bs.map V.bl, rfl, SqL.of h2, SqL.of h1, fun D hD => ?_⟩
  have n1 : p1 ≠ D := ne_of_none h1 hD
  have n2 : p2 ≠ D := ne_of_none h2 hD
  let acc : Nat → List Str := fun i => ((ws.zip bs).take i).filterMap fun p => if p.2 = true then some p.1 else none
  have hacc : ∀ i, (acc i).length ≤ ws.length := fun i => by
    refine Nat.le_trans (List.length_filterMap_le _ _) ?_
    rw [List.length_take, List.length_zip]; omega
  refine ⟨fun i m H' => m = ws.length - i ∧ i ≤ ws.length ∧ (∀ b o, H b = some o → H' b = some o) ∧ H' D = some (.lst ((acc i).map V.str)), ⟨ws.length, rfl, Nat.zero_le _, fun b o e => (upd_ne (ne_of_none e hD)).trans e, upd_same⟩, ?_⟩
  rintro i m H' ⟨rfl, hi, hx, hd⟩
  have e1 := hx _ _ h1
  have e2 := hx _ _ h2
  by_cases hlt : i < ws.length
  · obtain ⟨x, hwx⟩ : ∃ x, ws[i]? = some x := ⟨_, List.getElem?_eq_getElem hlt⟩
    obtain ⟨b, hbx⟩ : ∃ b, bs[i]? = some b := ⟨_, List.getElem?_eq_getElem (hl ▸ hlt)⟩
    refine .inr ⟨⟨_, _, .str x, .bl b, SqL.of e2, SqL.of e1, by rw [List.getElem?_map, hwx]; rfl, by rw [List.getElem?_map, hbx]; rfl⟩, fun H2 => i < ws.length ∧ (∀ b o, H b = some o → H2 b = some o) ∧ H2 D = some (.lst ((acc (i + 1)).map V.str)),
      fun H2 ⟨h3, h4, h5⟩ => ⟨_, by omega, rfl, by omega, h4, h5⟩, ?_⟩
    rintro v H2 ⟨T, y, z, rfl, hT, rfl, hy, hz'⟩
    have ey := hy _ (SqL.of e2)
    have ez := hz' _ (SqL.of e1)
    rw [List.getElem?_map, hwx] at ey
    rw [List.getElem?_map, hbx] at ez
    cases ey
    cases ez
    have nT : D ≠ T := ne_of_none hd hT
    have ea : acc (i + 1) = acc i ++ (if b = true then [x] else []) := sel_take hwx hbx
    refine ⟨T, [.str x, .bl b], rfl, SqT.of upd_same, rfl, .str x, _, rfl, .bl b, _, rfl, rfl, rfl, .bl b, rfl, b, rfl, ?_⟩
    have hd' : upd H' T (.tup [.str x, .bl b]) D = some (.lst ((acc i).map V.str)) := (upd_ne nT).trans hd
    have hup : ∀ c o, H c = some o → upd H' T (.tup [.str x, .bl b]) c = some o := fun c o e => (upd_ne (ne_of_none (hx c o e) hT)).trans (hx c o e)
    cases b with
    | false =>
      show if (false : Bool) = true then _ else _
      rw [if_neg (by decide)]
      refine ⟨hlt, hup, ?_⟩
      rw [hd', ea, if_neg (by decide), List.append_nil]
    | true =>
      show if (true : Bool) = true then _ else _
      rw [if_pos rfl]
      refine ⟨.str x, rfl, (acc i).map V.str, hd', ?_, hlt, fun c o e => ?_, ?_⟩
      · rw [List.length_map, sizeLine_eq]
        have := hacc i
        omega
      · rw [upd_ne (ne_of_none e hD)]; exact hup c o e
      · rw [upd_same, ea, if_pos rfl, List.map_append]; rfl
  · refine .inl ⟨⟨_, SqL.of e2, by rw [List.length_map]; omega⟩, hQ D H' hx ?_⟩
    rw [hd]
    have : acc i = sel ws bs := by
      show ((ws.zip bs).take i).filterMap _ = _
      rw [List.take_of_length_le (by rw [List.length_zip]; omega)]; rfl
    rw [this]
theorem upd_keep {H : Hp} {p b : Addr} {u o : HO} (e : H b = some o) (n : H p = none) : upd H p u b = some o := (upd_ne (ne_of_none e n)).trans e
abbrev tJoin (K : PySem.W.Frag) (to te : TE) : TE := tM1 (fun x xs H Q => ∃ a p, ∃ ys : List Str, x = .str a ∧ xs = [.ref p] ∧ (SqL K H p (ys.map V.str) ∨ SqT K H p (ys.map V.str)) ∧ (ys.map (·.length)).sum + ys.length * a.length ≤ 16777216 ∧ Q (.str (Txt.join a ys)) H) to te
abbrev tIs3 (a : Addr) (b1 b2 b3 : Bool) : TE := tLst (tCons (tIsE a b1) (tCons (tIsE a b2) (tCons (tIsE a b3) tNil)))
abbrev tIs2 (a : Addr) (b1 b2 : Bool) : TE := tLst (tCons (tIsE a b1) (tCons (tIsE a b2) tNil))
/-- the body of _law_error, the answers of isinstance b1 .. b8 -/
theorem err_body {K : PySem.W.Frag} {a : Addr} {b1 b2 b3 b4 b5 b6 b7 b8 : Bool} {w1 w2 w3 w4 w5 w6 w7 w8 : Str} {H : Hp} {D : Ends}
    (hsz : ((sel [w1, w2, w3, w4, w5, w6, w7, w8] [b1, b2, b3, b4, b5, b6, b7, b8]).map (·.length)).sum ≤ 16777216)
    (hQ : ∀ H', (∀ b o, H b = some o → H' b = some o) → D.rt (.str (Txt.join "" (sel [w1, w2, w3, w4, w5, w6, w7, w8] [b1, b2, b3, b4, b5, b6, b7, b8]))) H') :
    tSeq (tAsg (tIs3 a b1 b2 b3) (gName 1)) (tSeq (tAsg (tOp rCat (tVar 1) (tIs3 a b4 b5 b6)) (gName 1)) (tSeq (tAsg (tOp rCat (tVar 1) (tIs2 a b7 b8)) (gName 1))
      (tSeq (tAsg (tLst (tCons (tC (.str w1)) (tCons (tC (.str w2)) (tCons (tC (.str w3)) (tCons (tC (.str w4)) (tCons (tC (.str w5)) (tCons (tC (.str w6)) tNil))))))) (gName 2))
      (tSeq (tAsg (tOp rCat (tVar 2) (tLst (tCons (tC (.str w7)) (tCons (tC (.str w8)) tNil)))) (gName 2)) (tSeq (tRet (tJoin K (tC (.str "")) (tSel K))) tNext))))) D [some (.ref a), none, none, none, none] H := by
  have le : ∀ n : Nat, n ≤ 8 → n ≤ sizeLine := fun n h => by rw [sizeLine_eq]; omega
  refine ⟨rfl, rfl, rfl, le 3 (by decide), fun p1 n1 => ?_⟩
  have x1 : ∀ b o, H b = some o → upd H p1 (.lst [.bl b1, .bl b2, .bl b3]) b = some o := fun b o e => (upd_ne (ne_of_none e n1)).trans e
  generalize hH1 : upd H p1 (.lst [.bl b1, .bl b2, .bl b3]) = H1 at x1
  have g1 : H1 p1 = some (.lst [.bl b1, .bl b2, .bl b3]) := by rw [← hH1, upd_same]
  refine ⟨.ref p1, rfl, rfl, rfl, rfl, le 3 (by decide), fun p2 n2 => ⟨p1, p2, _, _, rfl, rfl, (upd_ne (ne_of_none g1 n2)).trans g1, upd_same, le 6 (by decide), fun p3 n3 => ?_⟩⟩
  have x2 : ∀ b o, H b = some o → upd (upd H1 p2 (.lst [.bl b4, .bl b5, .bl b6])) p3 (.lst ([.bl b1, .bl b2, .bl b3] ++ [.bl b4, .bl b5, .bl b6])) b = some o := fun b o e => upd_keep (upd_keep (x1 b o e) n2) n3
  generalize hH2 : upd (upd H1 p2 (.lst [.bl b4, .bl b5, .bl b6])) p3 (.lst ([.bl b1, .bl b2, .bl b3] ++ [.bl b4, .bl b5, .bl b6])) = H2 at x2
  have g2 : H2 p3 = some (.lst [.bl b1, .bl b2, .bl b3, .bl b4, .bl b5, .bl b6]) := by rw [← hH2, upd_same]; rfl
  refine ⟨.ref p3, rfl, rfl, rfl, le 2 (by decide), fun p4 n4 => ⟨p3, p4, _, _, rfl, rfl, (upd_ne (ne_of_none g2 n4)).trans g2, upd_same, le 8 (by decide), fun p5 n5 => ?_⟩⟩
  have x3 : ∀ b o, H b = some o → upd (upd H2 p4 (.lst [.bl b7, .bl b8])) p5 (.lst ([.bl b1, .bl b2, .bl b3, .bl b4, .bl b5, .bl b6] ++ [.bl b7, .bl b8])) b = some o := fun b o e => upd_keep (upd_keep (x2 b o e) n4) n5
  generalize hH3 : upd (upd H2 p4 (.lst [.bl b7, .bl b8])) p5 (.lst ([.bl b1, .bl b2, .bl b3, .bl b4, .bl b5, .bl b6] ++ [.bl b7, .bl b8])) = H3 at x3
  have g3 : H3 p5 = some (.lst ([b1, b2, b3, b4, b5, b6, b7, b8].map V.bl)) := by rw [← hH3, upd_same]; rfl
  refine ⟨le 6 (by decide), fun p6 n6 => ?_⟩
  have m1 : upd H3 p6 (.lst [.str w1, .str w2, .str w3, .str w4, .str w5, .str w6]) p6 = some (.lst [.str w1, .str w2, .str w3, .str w4, .str w5, .str w6]) := upd_same
  refine ⟨.ref p6, rfl, le 2 (by decide), fun p7 n7 => ⟨p6, p7, _, _, rfl, rfl, (upd_ne (ne_of_none m1 n7)).trans m1, upd_same, le 8 (by decide), fun p8 n8 => ?_⟩⟩
  have x5 : ∀ b o, H3 b = some o → upd (upd (upd H3 p6 (.lst [.str w1, .str w2, .str w3, .str w4, .str w5, .str w6])) p7 (.lst [.str w7, .str w8])) p8 (.lst ([.str w1, .str w2, .str w3, .str w4, .str w5, .str w6] ++ [.str w7, .str w8])) b = some o := fun b o e => upd_keep (upd_keep (upd_keep e n6) n7) n8
  generalize hH5 : upd (upd (upd H3 p6 (.lst [.str w1, .str w2, .str w3, .str w4, .str w5, .str w6])) p7 (.lst [.str w7, .str w8])) p8 (.lst ([.str w1, .str w2, .str w3, .str w4, .str w5, .str w6] ++ [.str w7, .str w8])) = H5 at x5
  have g5 : H5 p8 = some (.lst ([w1, w2, w3, w4, w5, w6, w7, w8].map V.str)) := by rw [← hH5, upd_same]; rfl
  refine ⟨⟨_, rfl⟩, sel_run rfl (by show 8 ≤ 1000; decide) (x5 _ _ g3) g5 fun Dd H' hx hd => ?_⟩
  refine ⟨"", Dd, _, rfl, rfl, .inl (SqL.of hd), ?_, hQ H' fun b o e => hx b o (x5 b o (x3 b o e))⟩
  rw [show ("" : Str).length = 0 from by rfl, Nat.mul_zero, Nat.add_zero]
  exact hsz
/-- a def run while p's exception is handled, its body told of that very p -/
theorem run_hot {CX : CXT} {P : Program} {w : World} {K : PySem.W.Frag} {mg : Str → Option Value} {base : Heap} {k : Nat} {f : Addr} {name qual : Str} {params : Arguments} {body : List Stmt} {scope : Scope} {dV kV doc pm cdv ct oc : Value} {an od : Option Addr}
    {osl : Array (Option Value)} {N ps : List Str} (lk : K.lookup f = some ⟨oc, od, .func (PySem.W.fnOf name qual params body scope dV kV doc pm an cdv ct), osl⟩) (hcd : PySem.W.codeIn K cdv qual = true) (S : FnScope N ps scope)
    {A : Around} {outer : List PySem.Env} {s : Shared} {H : Hp} {us : List Value} {vs : List V} {Q : VK} {E : XK} {p : Addr × Obj} (hr : L2H.RoomH (k + 1) A) (hpin : L2H.PinOk outer H s p) (e0 : Env0 P w K mg base A outer s H)
    (hb : BindsTo s (PySem.W.fnOf name qual params body scope dV kV doc pm an cdv ct) ⟨us, []⟩ (ps.zip us)) (r : Vals vs us) (hl : vs.length = ps.length)
    (hbody : L2H.RoomH k (A.deeper (envOfC qual scope s.heap.objs.size f cdv)) → ∃ t, PSs (L2H.cxH CX P w K mg base N qual scope f cdv A outer s H E p) body t ∧ t { nx := fun _ H' => Q .non H', rt := Q } (L2.start N vs) H) :
    codeAny (model P w) A (.call (.ref f) ⟨us, []⟩) (CR CX outer P w H s Q E) s := by
  have KX : K.In s.heap := e0.mod.kin.keeps fun b o e => (e0.bs b o e).1
  have lim : s.heap.NoLimit := e0.mod.nolimit.keeps fun b o e => (e0.bs b o e).1
  have hkind : ∀ y ∈ ps.zip us, scope.names.lookup y.1 = some .local ∨ (scope.names.lookup y.1 = some .cell ∧ ((cellsFrom (s.heap.objs.size + 1) scope.names []).lookup y.1).isSome = true) := fun ⟨n, v⟩ hy =>
    (S.par n (List.of_mem_zip hy).1).elim .inl fun q => .inr ⟨q, PySem.W.cellsFrom_some _ _ _ (.inl q)⟩
  refine codeAny_call_function hr.depth (KX _ _ lk) rfl S.co S.gen rfl (PySem.W.codeRec_of KX hcd) (hb _ _ _ _ (wpAny_newFunctionEnv_cells S.kind hkind fun env he s1 x => ?_))
  subst he
  refine ⟨lim.keeps x.toInCall.keep, codeAny_func ?_⟩
  obtain ⟨t, ht, hq⟩ := hbody (hr.deeper _)
  have I : L2.Inv (L2H.cxH CX P w K mg base N qual scope f cdv A outer s H E p) [] (L2.start N vs) H s1 := L2H.inv_startH S hpin e0 hl r x
  refine wpAny_mono (ht.run [] s1 (L2.start N vs) H _ I hq) (fun fl s' hs => ?_) fun e s' hs => hs
  cases fl with
  | ret u =>
    obtain ⟨v, σ', H', J, rv, q⟩ := hs
    exact ⟨v, H', J.os, J.bare, J.base, J.hok, rv, q⟩
  | next =>
    obtain ⟨σ', H', J, q⟩ := hs
    exact ⟨.non, H', J.os, J.bare, J.base, J.hok, rfl, q⟩
  | brk =>
    obtain ⟨_, _, _, q⟩ := hs
    exact False.elim q
  | cont =>
    obtain ⟨_, _, _, q⟩ := hs
    exact False.elim q
end Hot
end DL

namespace DL
open PySem PySem.Spec PyProof.Rows L2
/-! ## what the making of a lambda does to a world -/
section
variable {P : Program} {wo : World} {h : Heap} {H1 : Hp}
theorem code_off {w : Wd} (hok : HOk P wo H1 h) (eN : LamX.ExtN w.H H1) {b : Addr} {q : Str} (hb : H1 b = some (LamX.CodeO b q)) {o : HO} (ho : w.H b = some o) (hc : CellObj b o) (hn : ∀ ps, o ≠ .tbl ps) : False := by
  have e := eN b o ho hn
  rw [hb] at e
  have e' : LamX.CodeO b q = o := Option.some.inj e
  rcases hc with ⟨xs, rfl⟩ | ⟨xs, rfl⟩ | ⟨ks, rfl⟩ | ⟨ob, ks, rfl⟩ | ⟨C, dx, vs, rfl⟩ | ⟨ps, rfl⟩
  · unfold LamX.CodeO at e'; cases e'
  · unfold LamX.CodeO at e'; cases e'
  · obtain ⟨⟨oc, vs, t, h1, h2, _⟩, _, _⟩ := hok b _ hb
    obtain ⟨⟨xs, _, ⟨ob, es, ep, h3, _, h4, _⟩, _⟩, _, _⟩ := hok b _ (hb.trans (congrArg some e'))
    rw [h1] at h3
    cases h3
    rw [h2] at h4
    cases h4
  · unfold LamX.CodeO at e'; cases e'
  · unfold LamX.CodeO at e'; cases e'
  · exact hn ps rfl
open Classical in
/-- the code objects are known from now on -/
noncomputable def lamI (I H1 : Hp) : Hp := fun b => if I b = none ∧ ∃ q, H1 b = some (LamX.CodeO b q) then H1 b else I b
theorem lamI_ext {I H1 : Hp} {b : Addr} {o : HO} (e : I b = some o) : lamI I H1 b = some o := by
  unfold lamI
  rw [if_neg (by rintro ⟨z, _⟩; rw [e] at z; cases z)]
  exact e
theorem lamI_code {I H1 : Hp} (hI : ∀ b o, I b = some o → H1 b = some o) {b : Addr} {q : Str} (e : H1 b = some (LamX.CodeO b q)) : lamI I H1 b = some (LamX.CodeO b q) := by
  unfold lamI
  by_cases z : I b = none
  · rw [if_pos ⟨z, q, e⟩]; exact e
  · rw [if_neg fun y => z y.1]
    obtain ⟨o, ho⟩ := Option.ne_none_iff_exists'.mp z
    have := hI b o ho
    rw [e] at this
    rw [ho, ← this]
theorem lamI_cases {I H1 : Hp} {b : Addr} {o : HO} (e : lamI I H1 b = some o) : I b = some o ∨ ∃ q, o = LamX.CodeO b q ∧ H1 b = some o := by
  unfold lamI at e
  split at e
  · rename_i z
    obtain ⟨_, q, hq⟩ := z
    rw [hq] at e
    cases e
    exact .inr ⟨q, rfl, hq⟩
  · exact .inl e
theorem Wd.Ok.lam {K : PySem.W.Frag} {w : Wd} (k : w.Ok K) (hok : HOk P wo H1 h) (eN : LamX.ExtN w.H H1) {T : List (Addr × Str)} (T1 : LamX.Tabs T H1) (hT : ∀ (n : Nat) (a : Addr) (x q : Str), w.L[n]? = some a → w.s[n]? = some (some (Cell.tab x q)) → (a, q) ∈ T)
    (ht : ∃ (n : Nat) (x q : Str), w.s[n]? = some (some (Cell.tab x q))) {c' : Addr} {q' : Str} (hc : H1 c' = some (LamX.CodeO c' q')) :
    ∃ w' : Wd, w'.Ok K ∧ w.le w' ∧ w'.s = w.s ∧ w'.H = H1 ∧ w'.I c' = some (LamX.CodeO c' q') := by
  obtain ⟨n0, x0, q0, h0⟩ := ht
  have hI : ∀ b o, w.I b = some o → H1 b = some o := fun b o e => eN b o (k.fr b o e) fun ps z => k.nt b ps (by rw [← z]; exact e)
  have hZ : ∀ b ∈ w.Z, H1 b = w.H b := fun b hb => by
    obtain ⟨_, _, o, ho⟩ := k.zz b hb
    rw [ho]
    exact eN b o ho fun ps z => k.zt n0 x0 q0 h0 b hb ps (by rw [← z]; exact ho)
  have offL : ∀ (n : Nat) (b : Addr) (c : Cell), w.L[n]? = some b → w.s[n]? = some (some c) → w.I b = none → lamI w.I H1 b = none := fun n b c e1 e2 z => by
    obtain ⟨_, c2⟩ := k.cell n b c e1 e2
    obtain ⟨o, ho⟩ := c2.there
    cases q : lamI w.I H1 b with
    | none => rfl
    | some u =>
      exfalso
      rcases lamI_cases q with y | ⟨qq, rfl, hq⟩
      · rw [z] at y; cases y
      · by_cases hn : ∃ ps, o = .tbl ps
        · obtain ⟨ps, rfl⟩ := hn
          cases c with
          | tab x q2 =>
            obtain ⟨ps', hp, _⟩ := T1 _ (hT n b x q2 e1 e2)
            rw [hq] at hp
            unfold LamX.CodeO at hp
            cases hp
          | lst ds => obtain ⟨xs, e, _⟩ := c2; rw [ho] at e; cases e
          | dic ds => obtain ⟨xs, e, _⟩ := c2; rw [ho] at e; cases e
          | nd ds => obtain ⟨xs, e, _⟩ := c2; rw [ho] at e; unfold NDO at e; cases e
          | fnd ds => obtain ⟨ob, xs, _, e, _⟩ := c2; rw [ho] at e; cases e
          | ins y fs => obtain ⟨C, dx, vs, _, e, _⟩ := c2; rw [ho] at e; cases e
        · exact code_off hok eN hq ho (c2.form ho) fun ps y => hn ⟨ps, y⟩
  refine ⟨⟨lamI w.I H1, w.L, w.Z, w.s, H1⟩, ⟨fun b o e => ?_, k.len, fun n b c e1 e2 => ?_, fun n b e1 e2 => ?_, k.inj, fun b hb => ?_, fun b ps e => ?_, fun b hb o e => k.zo b hb o ((hZ b hb).symm.trans e), fun n x q e b hb ps z => k.zt n x q e b hb ps ((hZ b hb).symm.trans z)⟩, ⟨fun b o e => lamI_ext e, List.prefix_rfl, rfl, hZ⟩, rfl, rfl, lamI_code hI hc⟩
  · rcases lamI_cases e with y | ⟨_, _, y⟩
    · exact hI b o y
    · exact y
  · obtain ⟨c1, c2⟩ := k.cell n b c e1 e2
    refine ⟨fun z => offL n b c e1 e2 (c1 z), ?_⟩
    cases c with
    | tab x q =>
      obtain ⟨t, _⟩ := c2
      obtain ⟨ps, hp, hq, hr⟩ := T1 _ (hT n b x q e1 e2)
      refine ⟨t, ps, hp, hq, fun pos cv hcv => ?_⟩
      obtain ⟨c, e, e'⟩ := hr pos cv hcv
      exact ⟨c, e, lamI_code hI e'⟩
    | lst ds => exact c2.mono (fun b o e => lamI_ext e) List.prefix_rfl (by obtain ⟨xs, e, _⟩ := id c2; rw [e]; exact (eN _ _ e fun _ z => by cases z).symm)
    | dic ds => exact c2.mono (fun b o e => lamI_ext e) List.prefix_rfl (by obtain ⟨xs, e, _⟩ := id c2; rw [e]; exact (eN _ _ e fun _ z => by cases z).symm)
    | nd ds => exact c2.mono (fun b o e => lamI_ext e) List.prefix_rfl (by obtain ⟨xs, e, _⟩ := id c2; rw [e]; exact (eN _ _ e fun _ z => by unfold NDO at z; cases z).symm)
    | fnd ds => exact c2.mono (fun b o e => lamI_ext e) List.prefix_rfl (by obtain ⟨ob, xs, _, e, _⟩ := id c2; rw [e]; exact (eN _ _ e fun _ z => by cases z).symm)
    | ins y fs => exact c2.mono (fun b o e => lamI_ext e) List.prefix_rfl (by obtain ⟨C, dx, vs, _, e, _⟩ := id c2; rw [e]; exact (eN _ _ e fun _ z => by cases z).symm)
  · intro z
    obtain ⟨o, ho⟩ := Option.ne_none_iff_exists'.mp (k.dead n b e1 e2)
    have z' : lamI w.I H1 b = none := z
    rw [lamI_ext ho] at z'
    cases z'
  · obtain ⟨z1, z2, o, ho⟩ := k.zz b hb
    refine ⟨?_, z2, o, (hZ b hb).trans ho⟩
    show lamI w.I H1 b = none
    cases q : lamI w.I H1 b with
    | none => rfl
    | some u =>
      exfalso
      rcases lamI_cases q with y | ⟨qq, rfl, hq⟩
      · rw [z1] at y; cases y
      · exact code_off hok eN hq ho (k.zo b hb o ho) fun ps y => k.zt n0 x0 q0 h0 b hb ps (by rw [← y]; exact ho)
  · rcases lamI_cases e with y | ⟨qq, y, _⟩
    · exact k.nt b ps y
    · unfold LamX.CodeO at y; cases y
end
/-! ## _law_error(e) in the suite -/
/-- what the def x does with an exception of the class D that is handled: word comes out, the heap has only grown -/
structure ErrOk (P : Program) (w : World) (K : PySem.W.Frag) (mg : Str → Option Value) (base : Heap) (k : Nat) (x : Str) (D : Addr) (word : Str) : Prop where
  ex : ∃ f : Addr, mg x = some (.ref f) ∧ PySem.W.keepIn K (.ref f) = true ∧ ∀ (A : Around) (outer : List PySem.Env) (s : Shared) (H : Hp) (Q : VK) (a : Addr) (oe : Obj), L2H.RoomH k A → L2H.Hot1 A (a, oe) → L2H.PinOk outer H s (a, oe) → L2N.Zn (.ref D) none oe →
    Env0 P w K mg base A outer s H → (∀ H', (∀ b o, H b = some o → H' b = some o) → Q (.str word) H') → codeAny (model P w) A (.call (.ref f) ⟨[.ref a], []⟩) (CR (L2N.CX P w) outer P w H s Q E0) s
theorem pe_err {X : Cx} {a D : Addr} {oe : Obj} {pn : List (Addr × Obj)} {k j i : Nat} {x n word : Str} {p p2 pos : Pos} (F : ErrOk X.prog X.w X.K X.mg X.base j x D word) (hr : Room k X.A) (hz : L2N.Zn (.ref D) none oe) (hf : ∃ vs, oe.data = .fields vs) (hk : j ≤ k)
    (hN : X.N[i]? = some n) (hv : Vis X.env.scope n) (hg : Gl X x) (hd : (n == ("__debug__" : Str)) = false := by decide) (hcd : (n == ("__classdict__" : Str)) = false := by decide) (hdb : (x == ("__debug__" : Str)) = false := by decide) :
    PE (X.suite a ((a, oe) :: pn)) (.Call (.Name x p) [.Name n p2] [] pos) (fun σ H Q => σ[i]? = some (some (.ref a)) ∧ ∀ H', (∀ b o, H b = some o → H' b = some o) → Q (.str word) H') := by
  obtain ⟨f, h1, h2, h3⟩ := F.ex
  refine ⟨fun pins s σ H Q I ⟨hs, hQ⟩ => ?_⟩
  refine wpAny_Call_Name_kw (ld_glob I hg h1 ?_ hdb)
  refine PySem.W.callWith_K (h₀ := X.base) I.ok.mod.kin h2 (thn ((pa_cons (pe_var (X := X.suite a ((a, oe) :: pn)) (i := i) hN hv hd hcd) pa_nil).run pos pins s σ H (fun vs H1 => vs = [.ref a] ∧ H1 = H) I ⟨.ref a, hs, rfl, rfl⟩) fun us s1 ⟨vs, H1, I1, r, ev, eH⟩ => ⟨I1.kIn, ?_⟩) (by rfl) (by rfl)
  subst ev
  subst eH
  obtain ⟨vs, hvs⟩ := hf
  cases r with
  | cons r1 r2 =>
    cases r2
    cases r1
    have P1 := I1.pin (a, oe) (List.mem_append_left _ List.mem_cons_self)
    have hpin : L2H.PinOk (X.suite a ((a, oe) :: pn)).stack H1 s1 (a, oe) := ⟨P1.1, P1.2.1, fun hm => (List.mem_cons.mp (I1.stkSub a hm)).elim P1.2.2.1 P1.2.2.2.1, P1.2.2.2.2⟩
    have hr' : L2H.RoomH j (X.suite a ((a, oe) :: pn)).A := ⟨by have := hr.dp; show X.A.depth + 3 * j + 5 < _; omega, by have := hr.un; show X.A.units + 16 * j + 200 < _; omega⟩
    refine wpAny_call (codeAny_mono (h3 (X.suite a ((a, oe) :: pn)).A (X.suite a ((a, oe) :: pn)).stack s1 H1 Q a oe hr' ⟨rfl, vs, hvs, hz.2.2 vs hvs⟩ hpin hz I1.env0 hQ) fun r s' hq => ?_)
    cases r with
    | error e => exact passN pins σ H1 s1 e s' I1 hq
    | ok fl =>
      cases fl with
      | ret u => exact I1.after hq
      | next => exact False.elim hq
      | brk => exact False.elim hq
      | cont => exact False.elim hq
end DL

namespace DL
open PySem PySem.Spec PyProof.Rows L2
/-! ## _law_outcome: found = ('nothing',); try: found = ('value', call()); except PageError as e: found = (_law_error(e),); return found -/
section
variable {X : Cx}
/-- the except suite -/
theorem out_suite {a : Addr} {oe : Obj} {cls : Value} {d : Option Addr} {pn : List (Addr × Obj)} {k j : Nat} {x n y : Str} {kt : Nat} {p1 p2 p3 p4 p5 p6 : Pos} (hr : Room k X.A) (hz : L2N.Zn cls d oe) (hf : ∃ vs, oe.data = .fields vs) (hk : j ≤ k) (hN : X.N.Nodup) (h1 : X.N[1]? = some y) (h2 : X.N[2]? = some n)
    (hy : X.env.scope.names.lookup y = some .local) (hv : Vis X.env.scope n) (hg : Gl X x) (hs : swapsWith (.Tuple [.Call (.Name x p3) [.Name n p4] [] p5] kt p2) (some (.Name y p1)) p6.line X.env = pure false)
    (hd : (n == ("__debug__" : Str)) = false := by decide) (hcd : (n == ("__classdict__" : Str)) = false := by decide) (hdb : (x == ("__debug__" : Str)) = false := by decide) :
    PSs (X.suite a ((a, oe) :: pn)) [.Assign [.Name y p1] (.Tuple [.Call (.Name x p3) [.Name n p4] [] p5] kt p2) p6]
      (fun D σ H => ∃ (Dd : Addr) (word : Str), cls = .ref Dd ∧ d = none ∧ ErrOk X.prog X.w X.K X.mg X.base j x Dd word ∧ σ[2]? = some (some (.ref a)) ∧ ∀ H', (∀ b o, H b = some o → H' b = some o) → ∀ p, H' p = none → D.nx (σ.set 1 (some (.ref p))) (upd H' p (.tup [.str word]))) := by
  refine ⟨fun pins s σ H D I ⟨Dd, word, e1, e2, F, hs2, hq⟩ => ?_⟩
  subst e1
  subst e2
  have he := pe_err (a := a) (pos := p5) (p := p3) (p2 := p4) (i := 2) (pn := pn) F hr hz hf hk h2 hv hg hd hcd hdb
  have ht := pe_tup (pos := p2) (x1 := kt) (pa_cons he pa_nil (by rfl))
  exact (pss_one (ps_set (X := X.suite a ((a, oe) :: pn)) (i := 1) (pos' := p1) (pos := p6) hN h1 (.inl hy) ht hs (.inr hy))).run pins s σ H D I ⟨hs2, fun H' hx => ⟨by show 1 ≤ sizeLine; rw [sizeLine_eq]; omega, fun p hp => hq H' hx p hp⟩⟩
end
section
variable {Z : Cx}
/-- what the def does with what the call gives: v, or an exception that is caught -/
def outT (Z : Cx) (CS : Addr) (j : Nat) (x : Str) (tl : XK → Hp → VK → Prop) (Q : VK) (H1 : Hp) : Prop :=
  tl (fun cls d H' => PySem.W.exmOne Z.K cls (.ref CS) = some true ∧ ∃ (Dd : Addr) (word : Str), cls = .ref Dd ∧ d = none ∧ ErrOk Z.prog Z.w Z.K Z.mg Z.base j x Dd word ∧ ∀ H2, (∀ b o, H' b = some o → H2 b = some o) → ∀ p, H2 p = none → Q (.ref p) (upd H2 p (.tup [.str word]))) H1
    (fun v H' => ∀ p, H' p = none → Q (.ref p) (upd H' p (.tup [.str "value", v])))
theorem out_body {f c' CS : Addr} {q x n y a xe' : Str} {tl : XK → Hp → VK → Prop} {k j k1 k2 k3 i1 i2 : Nat} {p1 p2 p3 p4 p5 p6 p7 p8 p9 p10 p11 p12 p13 p14 p15 p16 p17 p18 p19 p20 p21 : Pos} {H : Hp} {Q : VK}
    (hr : Room k Z.A) (hk : j ≤ k) (hst : Z.stack = Z.env :: Z.outer) (hfr : Z.env.frame = some Z.env.locals) (hN : Z.N.Nodup) (hNN : Z.N = [a, y, n]) (hy : Z.env.scope.names.lookup y = some .local) (hn : Z.env.scope.names.lookup n = some .local)
    (act : ∀ (W : WX) (pn : List (Addr × Obj)) (xe : Value → Shared → Prop), L2N.Takes (Z.tr pn xe) W → PE (Z.tr pn xe) (.Call (.Name a p7) [] [] p8) (fun σZ HZ Q => σZ[0]? = some (some (.ref f)) ∧ HZ c' = some (LamX.CodeO c' q) ∧ tl (fun cls d H' => W cls d σZ H') HZ Q))
    (hgx : Gl Z x) (hge : Gl Z xe') (hme : Z.mg xe' = some (.ref CS)) (hde : (xe' == ("__debug__" : Str)) = false) (hdn : (n == ("__debug__" : Str)) = false) (hcdn : (n == ("__classdict__" : Str)) = false) (hdx : (x == ("__debug__" : Str)) = false) (hdy : (y == ("__debug__" : Str)) = false) (hcdy : (y == ("__classdict__" : Str)) = false)
    (s1 : swapsWith (.Tuple [.Constant (.str "nothing") i1 p2] k1 p3) (some (.Name y p1)) p4.line Z.env = pure false) (s2 : swapsWith (.Tuple [.Constant (.str "value") i2 p6, .Call (.Name a p7) [] [] p8] k2 p9) (some (.Name y p5)) p10.line Z.env = pure false)
    (s3 : swapsWith (.Tuple [.Call (.Name x p13) [.Name n p14] [] p15] k3 p12) (some (.Name y p11)) p16.line Z.env = pure false) (hc : H c' = some (LamX.CodeO c' q)) (htl : ∀ (E E' : XK) (H : Hp) (Q Q' : VK), (∀ cls d H', E cls d H' → E' cls d H') → (∀ v H', Q v H' → Q' v H') → tl E H Q → tl E' H Q') (h : ∀ p0, H p0 = none → outT Z CS j x tl Q (upd H p0 (.tup [.str "nothing"]))) :
    ∃ t, PSs Z [.Assign [.Name y p1] (.Tuple [.Constant (.str "nothing") i1 p2] k1 p3) p4,
      .Try [.Assign [.Name y p5] (.Tuple [.Constant (.str "value") i2 p6, .Call (.Name a p7) [] [] p8] k2 p9) p10] [.ExceptHandler (some (.Name xe' p17)) (some n) [.Assign [.Name y p11] (.Tuple [.Call (.Name x p13) [.Name n p14] [] p15] k3 p12) p16] p18] [] [] p19,
      .Return (some (.Name y p20)) p21] t ∧ t { nx := fun _ H' => Q .non H', rt := Q } [some (.ref f), none, none] H := by
  have le : ∀ m : Nat, m ≤ 8 → m ≤ sizeLine := fun m h => by rw [sizeLine_eq]; omega
  have N1 : Z.N[1]? = some y := by rw [hNN]; rfl
  have N2 : Z.N[2]? = some n := by rw [hNN]; rfl
  refine ⟨_, pss_cons (ps_set (i := 1) hN N1 (.inl hy) (pe_tup (pa_cons pe_str pa_nil)) s1 (.inr hy)) (pss_cons (L2N.ps_try_as (i := 2) (c := .ref CS) hst hfr hN N2 hn ⟨hge, hde, .inl hme⟩ takesN
      (fun W pn xe tk _ => pss_one (ps_set (X := Z.tr pn xe) (i := 1) hN N1 (.inl hy) (pe_tup (pa_cons pe_str (pa_cons (act W pn xe tk) pa_nil (by rfl)) (by rfl))) s2 (.inr hy)))
      (fun a oe cls d pn hz hf => out_suite hr hz hf hk hN N1 N2 hy (.inl hn) hgx s3 hdn hcdn hdx))
    (pss_one (ps_ret (pe_var (i := 1) N1 (.inl hy) hdy hcdy)))), ?_⟩
  refine ⟨le 1 (by decide), fun p0 n0 => ⟨rfl, (upd_ne (ne_of_none hc n0)).trans hc, ?_⟩⟩
  refine htl _ _ _ _ _ (fun cls d H' hw => ?_) (fun v H' hv => ?_) (h p0 n0)
  · obtain ⟨e, Dd, word, e1, e2, F, hq⟩ := hw
    refine ⟨true, e, fun _ a ha => ⟨Dd, word, e1, e2, F, rfl, fun H2 hx p hp => ?_⟩, fun z => by cases z⟩
    exact ⟨.ref p, rfl, hq H2 hx p hp⟩
  · exact ⟨le 2 (by decide), fun p hp => ⟨.ref p, rfl, hv p hp⟩⟩
end
end DL

namespace DL
open PySem PySem.Spec PyProof.Rows L2
/-! ## _law_outcome(lambda: e) -/
def eOut (n : Nat) (x q : Str) (cs : List Str) (f : En → M D) : En → M D := fun ρ s => match s[n]? with
  | some (some (.tab x' q')) => if x' = x ∧ q' = q then (match f ρ s with
    | .ok d s' => .ok (.tup [.str "value", d]) s'
    | .er c s' => if c ∈ cs then .ok (.tup [.str c]) s' else .no
    | .no => .no) else .no
  | _ => .no
theorem tD_mono {K : PySem.W.Frag} {mg : Str → Option Value} {f : En → M D} {σ : L2.St} {E E' : XK} {H : Hp} {Q Q' : VK} (hE : ∀ cls d H', E cls d H' → E' cls d H') (hQ : ∀ v H', Q v H' → Q' v H') (h : tD K mg E f σ H Q) : tD K mg E' f σ H Q' := by
  obtain ⟨ρ, w, e, ok, re, h⟩ := h
  refine ⟨ρ, w, e, ok, re, ?_⟩
  cases hr : f ρ w.s with
  | ok d s =>
    rw [hr] at h
    exact fun w' h1 h2 h3 v rv => hQ _ _ (h w' h1 h2 h3 v rv)
  | er c s =>
    rw [hr] at h
    exact fun C w' h0 h1 h2 h3 => hE _ _ _ (h C w' h0 h1 h2 h3)
  | no => rw [hr] at h; exact h
/-- what a() does in a def that is entered at s while a holds the function at f: tl -/
def ActOk (P : Program) (w : World) (K : PySem.W.Frag) (mg : Str → Option Value) (base : Heap) (A : Around) (outer : List PySem.Env) (s : Shared) (H : Hp) (k : Nat) (f c' : Addr) (q : Str) (tl : XK → Hp → VK → Prop) : Prop :=
  ∀ (CXg : CXT) (Eg : XK) (Ng : List Str) (qg : Str) (sg : Scope) (g : Addr) (cdg : Value) (pn : List (Addr × Obj)) (xe : Value → Shared → Prop) (W : WX) (i : Nat) (a : Str) (p1 p2 : Pos),
    L2N.Takes ((cxOf CXg P w K mg base Ng qg sg g cdg A outer s H Eg).tr pn xe) W → Room (k + 1) (A.deeper (envOfC qg sg s.heap.objs.size g cdg)) → Ng[i]? = some a → Vis sg a → (a == ("__debug__" : Str)) = false → (a == ("__classdict__" : Str)) = false →
    PE ((cxOf CXg P w K mg base Ng qg sg g cdg A outer s H Eg).tr pn xe) (.Call (.Name a p1) [] [] p2) (fun σZ HZ Q => σZ[i]? = some (some (.ref f)) ∧ HZ c' = some (LamX.CodeO c' q) ∧ tl (fun cls d H' => W cls d σZ H') HZ Q)
/-- the def x: _law_outcome; cs: the exceptions that it knows -/
structure DefO (P : Program) (w : World) (K : PySem.W.Frag) (mg : Str → Option Value) (base : Heap) (j : Nat) (x : Str) (cs : List Str) : Prop where
  ex : ∃ g : Addr, mg x = some (.ref g) ∧ PySem.W.keepIn K (.ref g) = true ∧ ∃ T : Str → Addr → Prop, (∀ c ∈ cs, ∃ C : Addr, mg c = some (.ref C) ∧ T c C) ∧
    ∀ (ka k : Nat) (A : Around) (outer : List PySem.Env) (s : Shared) (H : Hp) (Q : VK) (f c' : Addr) (q : Str) (tl : XK → Hp → VK → Prop), j ≤ k → ka + 2 ≤ k → Room k A → Env0 P w K mg base A outer s H → H c' = some (LamX.CodeO c' q) → ActOk P w K mg base A outer s H ka f c' q tl →
      (∀ (E E' : XK) (H : Hp) (Q Q' : VK), (∀ cls d H', E cls d H' → E' cls d H') → (∀ v H', Q v H' → Q' v H') → tl E H Q → tl E' H Q') →
      (∀ p0, H p0 = none → tl (fun cls d H' => ∃ (c : Str) (C : Addr), T c C ∧ cls = .ref C ∧ d = none ∧ ∀ H2, (∀ b o, H' b = some o → H2 b = some o) → ∀ p, H2 p = none → Q (.ref p) (upd H2 p (.tup [.str c]))) (upd H p0 (.tup [.str "nothing"]))
        (fun v H' => ∀ p, H' p = none → Q (.ref p) (upd H' p (.tup [.str "value", v])))) →
      codeAny (model P w) A (.call (.ref g) ⟨[.ref f], []⟩) (CR (L2N.CX P w) outer P w H s Q E0) s
/-- what a def that makes lambdas knows of its own code object and its table -/
structure MkT (X : Cx) (x q : Str) : Prop where
  ex : ∃ c P : Addr, PySem.W.tabIn X.K x = some (c, P) ∧ X.env.code = .ref c ∧ LamX.TabB X.base X.mg c P
  q : X.env.qual ++ "<lambda>" = q
/-- the tables of a world -/
def tabsOf (L : List Addr) (s : Sto) : List (Addr × Str) := (L.zip s).filterMap fun p => match p.2 with
  | some (.tab _ q) => some (p.1, q)
  | _ => none
theorem tabsOf_mem {L : List Addr} {s : Sto} {m : Nat} {a : Addr} {x q : Str} (h1 : L[m]? = some a) (h2 : s[m]? = some (some (.tab x q))) : (a, q) ∈ tabsOf L s := by
  have hz : (L.zip s)[m]? = some (a, some (.tab x q)) := List.getElem?_zip_eq_some.mpr ⟨h1, h2⟩
  exact List.mem_filterMap.mpr ⟨_, List.mem_of_getElem? hz, rfl⟩
theorem of_tabsOf {L : List Addr} {s : Sto} {p : Addr × Str} (h : p ∈ tabsOf L s) : ∃ (m : Nat) (x : Str), L[m]? = some p.1 ∧ s[m]? = some (some (Cell.tab x p.2)) := by
  obtain ⟨r, hr, e⟩ := List.mem_filterMap.mp h
  obtain ⟨m, hm⟩ := List.getElem?_of_mem hr
  obtain ⟨h1, h2⟩ := List.getElem?_zip_eq_some.mp hm
  obtain ⟨a, oc⟩ := r
  cases oc with
  | none => cases e
  | some c =>
    cases c with
    | tab x q =>
      cases e
      exact ⟨m, x, h1, h2⟩
    | lst _ => cases e
    | dic _ => cases e
    | nd _ => cases e
    | fnd _ => cases e
    | ins _ _ => cases e
theorem tabs_ok {K : PySem.W.Frag} {w : Wd} (ok : w.Ok K) : LamX.Tabs (tabsOf w.L w.s) w.H := fun p hp => by
  obtain ⟨m, x, h1, h2⟩ := of_tabsOf hp
  obtain ⟨_, t, ps, e1, e2, e3⟩ := ok.cell m p.1 _ h1 h2
  exact ⟨ps, e1, e2, fun pos cv hc => let ⟨c, a, b⟩ := e3 pos cv hc; ⟨c, a, ok.fr _ _ b⟩⟩
section
variable {X : Cx} {E : XK}
theorem de_out {n j ka k : Nat} {x tx q : Str} {cs : List Str} {params : Arguments} {body : Expr} {scope : Scope} {fl : En → M D} {p lpos pos : Pos} (C : Ctl X E k) (F : DefO X.prog X.w X.K X.mg X.base j x cs) (M : MkT X tx q)
    (hbody : ∀ (A : Around) (outer : List PySem.Env) (s : Shared) (H : Hp) (E' : XK) (f c' : Addr), Ctl (lamN X A outer s H E' scope f c') E' ka → DE (lamN X A outer s H E' scope f c') E' body fl)
    (L : LamX.LamS X.env.scope scope) (hk : j ≤ k := by decide) (hka : ka + 2 ≤ k := by decide) (hdef : defaultsOf params X.env = ([], []) := by rfl)
    (hbind : ∀ (q : Str) (cl : List (Str × Addr)) (pm cv ctv : Value), bindArgs (PySem.W.kla_fn "<lambda>" q params body scope cl pm cv ctv) ⟨[], []⟩ = pure [] := by intros; rfl) (hg : Gl X x := by rfl) (hdb : (x == ("__debug__" : Str)) = false := by decide) :
    DE X E (.Call (.Name x p) [.Lambda params body scope lpos] [] pos) (eOut n tx q cs fl) := by
  obtain ⟨g, hm, hkp, T, hcs, hrun⟩ := F.ex
  obtain ⟨c, P0, ht, hcode, TB⟩ := M.ex
  refine ⟨fun pins s σ H Q I h => ?_⟩
  obtain ⟨ρ, w, e, ok, re, h⟩ := h
  subst e
  unfold eOut at h
  split at h
  case h_2 => exact h.elim
  rename_i tx' q' hs
  split at h
  case isFalse => exact h.elim
  rename_i he
  obtain ⟨rfl, rfl⟩ := he
  have hn : n < w.L.length := by rw [ok.len]; exact (List.getElem?_eq_some_iff.mp hs).1
  have hL : w.L[n]? = some w.L[n] := List.getElem?_eq_getElem hn
  have hP : w.L[n] = P0 := TabOf.inj (ok.cell n _ _ hL hs).2.1 ⟨c, ht⟩
  rw [hP] at hL
  have hq := M.q
  subst hq
  have hmT := tabsOf_mem hL hs
  have hu : ∀ p ∈ tabsOf w.L w.s, p.1 = P0 → p.2 = X.env.qual ++ "<lambda>" := fun p hp e => by
    obtain ⟨m, y, h1, h2⟩ := of_tabsOf hp
    rw [e] at h1
    have := nodup_at ok.inj h1 hL
    subst this
    rw [hs] at h2
    injection (Option.some.inj (Option.some.inj h2)) with _ e2
    exact e2.symm
  refine wpAny_Call_Name_kw (ld_glob I hg hm ?_ hdb)
  refine PySem.W.callWith_K (h₀ := X.base) I.ok.mod.kin hkp ?_ (by rfl) (by rfl)
  show wpAny _ _ (spliced ((false, eval (.Lambda params body scope lpos) X.env) :: backTo pos (starEach [] X.env))) _ _ s
  refine Calls.spliced_cons (LamX.lam_make2 I TB hcode hmT hu (tabs_ok ok) hdef (L.has I.ok) fun f c' pm' ctv H1 s' I1 eN T1 hf hfn hfr hco => ?_)
  refine Calls.spliced_nil ⟨I1.kIn, ?_⟩
  obtain ⟨w1, ok1, l1, es1, eH1, ec1⟩ := ok.lam I1.hok eN T1 (fun m a y qq h1 h2 => tabsOf_mem h1 h2) ⟨n, _, _, hs⟩ hco
  subst eH1
  have rc : codeAny (model X.prog X.w) X.A (.call (.ref g) ⟨[.ref f], []⟩) (CR (L2N.CX X.prog X.w) X.stack X.prog X.w w1.H s' Q E0) s' := by
    refine hrun ka k X.A X.stack s' w1.H Q f c' (X.env.qual ++ "<lambda>") (fun E' H' Q' => tD X.K X.mg E' fl σ H' Q') hk hka C.room I1.env0 hco
      (fun CXg Eg Ng qg sg g cdg pn xe W i a p1 p2 tk hr hN hv hd hcd => pe_actN (k := ka) (tb := fun E' => tD X.K X.mg E' fl) I1 L hf hfn hfr (hbind _ _ _ _ _) tk hr (fun A outer s H E' hr2 => hbody A outer s H E' f c' (ctl_lam C hr2)) hN hv hd hcd)
      (fun E E' H Q Q' hE hQ ht => tD_mono hE hQ ht) fun p0 n0 => ?_
    obtain ⟨ok2, l2⟩ := ok1.newI n0 (.tup [.str "nothing"])
    refine ⟨ρ, _, rfl, ok2, re.le (l1.trans l2), ?_⟩
    show Fin X.K X.mg _ _ (fl ρ w1.s) _
    rw [← es1] at h
    cases hr : fl ρ w1.s with
    | no => rw [hr] at h; exact h
    | ok d s3 =>
      rw [hr] at h
      intro w3 l3 ok3 e3 v rv p hp
      obtain ⟨ok4, l4⟩ := ok3.newI hp (.tup [.str "value", v])
      exact h _ (((l1.trans l2).trans l3).trans l4) ok4 e3 _ (.tup upd_same (.cons (.str _) (.cons (rv.le l4) .nil)))
    | er cc s3 =>
      rw [hr] at h
      have h' : Fin X.K X.mg E w (if cc ∈ cs then .ok (.tup [.str cc]) s3 else .no) fun d w' => ∀ v, w'.rep X.K d v → Q v w'.H := h
      by_cases hc : cc ∈ cs
      · rw [if_pos hc] at h'
        obtain ⟨CC, hmc, hTc⟩ := hcs cc hc
        intro C2 w3 hm2 l3 ok3 e3
        rw [hmc] at hm2
        cases hm2
        refine ⟨cc, _, hTc, rfl, rfl, fun H2 hx p hp => ?_⟩
        obtain ⟨ok4, l4⟩ := ok3.more hx
        obtain ⟨ok5, l5⟩ := ok4.newI hp (.tup [.str cc])
        exact h' _ ((((l1.trans l2).trans l3).trans l4).trans l5) ok5 e3 _ (.tup upd_same (.cons (.str _) .nil))
      · rw [if_neg hc] at h'
        exact h'.elim
  refine wpAny_call (codeAny_mono rc fun r s2 hq => ?_)
  cases r with
  | error e => exact passN pins σ w1.H s' e s2 I1 hq
  | ok fl =>
    cases fl with
    | ret u => exact I1.after hq
    | next => exact False.elim hq
    | brk => exact False.elim hq
    | cont => exact False.elim hq
end
/-! ## the promise of _law_outcome by its body -/
section
variable {P : Program} {w : World} {K : PySem.W.Frag} {mg : Str → Option Value} {base : Heap}
theorem DefO.mk' {x y n a xe xw : Str} {st : Stmt} {g CS : Addr} {fd : FuncData} {cs : List Str} {k1 k2 k3 i1 i2 : Nat} {j : Nat} {p1 p2 p3 p4 p5 p6 p7 p8 p9 p10 p11 p12 p13 p14 p15 p16 p17 p18 p19 p20 p21 : Pos}
    (F : Fun K x x st g fd) (hm : mg x = some (.ref g)) (S : FnScope [a, y, n] [a] (defScope st)) (hb : L2.Binds K fd [a] [])
    (hbody : defBody st = [.Assign [.Name y p1] (.Tuple [.Constant (.str "nothing") i1 p2] k1 p3) p4,
      .Try [.Assign [.Name y p5] (.Tuple [.Constant (.str "value") i2 p6, .Call (.Name a p7) [] [] p8] k2 p9) p10] [.ExceptHandler (some (.Name xe p17)) (some n) [.Assign [.Name y p11] (.Tuple [.Call (.Name xw p13) [.Name n p14] [] p15] k3 p12) p16] p18] [] [] p19,
      .Return (some (.Name y p20)) p21])
    (hme : mg xe = some (.ref CS)) (hcs : ∀ c ∈ cs, ∃ C : Addr, mg c = some (.ref C) ∧ PySem.W.exmOne K (.ref C) (.ref CS) = some true ∧ ErrOk P w K mg base j xw C c)
    (hya : (defScope st).names.lookup y = some .local) (hna : (defScope st).names.lookup n = some .local) (hva : Vis (defScope st) a) (hgx : (defScope st).names.lookup xw = some .globalImplicit) (hge : (defScope st).names.lookup xe = some .globalImplicit)
    (hda : (a == ("__debug__" : Str)) = false := by decide) (hca : (a == ("__classdict__" : Str)) = false := by decide)
    (hde : (xe == ("__debug__" : Str)) = false := by decide) (hdn : (n == ("__debug__" : Str)) = false := by decide) (hcdn : (n == ("__classdict__" : Str)) = false := by decide) (hdx : (xw == ("__debug__" : Str)) = false := by decide) (hdy : (y == ("__debug__" : Str)) = false := by decide) (hcdy : (y == ("__classdict__" : Str)) = false := by decide) :
    DefO P w K mg base (j + 1) x cs := by
  obtain ⟨oc, od, kV, doc, pm, an, cdv, ct, osl, rfl, lk, hcd⟩ := F.1
  refine ⟨g, hm, F.kp, fun c C => mg c = some (.ref C) ∧ PySem.W.exmOne K (.ref C) (.ref CS) = some true ∧ ErrOk P w K mg base j xw C c, fun c hc => ?_, fun ka k A outer s H Q f c' q tl hk hka hr e0 hco act mono h => ?_⟩
  · obtain ⟨C, h1, h2, h3⟩ := hcs c hc
    exact ⟨C, h1, h1, h2, h3⟩
  · obtain ⟨k', rfl⟩ : ∃ k', k = k' + 1 := ⟨k - 1, by omega⟩
    refine LamX.run_ofS (CX := L2N.CX P w) (N := [a, y, n]) (ps := [a]) (us := [.ref f]) (vs := [.ref f]) lk hcd S hr e0 (hb s [.ref f] (e0.mod.kin.keeps fun b o e => (e0.bs b o e).1) rfl) (.cons rfl .nil) rfl fun hr' => ?_
    rw [hbody]
    refine out_body (Z := cxOf (L2N.CX P w) P w K mg base [a, y, n] x (defScope st) g cdv A outer s H E0) (f := f) (c' := c') (q := q) (tl := tl) (CS := CS) (k := k') (j := j) hr' (by omega) rfl rfl S.nd rfl hya hna
      (fun W pn xe tk => act _ _ _ _ _ _ _ pn xe W 0 a _ _ tk (hr'.mono (by omega)) rfl hva hda hca) hgx hge hme hde hdn hcdn hdx hdy hcdy rfl rfl rfl hco mono fun p0 n0 => ?_
    refine mono _ _ _ _ _ (fun cls d H' hw => ?_) (fun v H' hv => hv) (h p0 n0)
    obtain ⟨c, C, ⟨_, t2, t3⟩, rfl, rfl, hq⟩ := hw
    exact ⟨t2, C, c, rfl, rfl, t3, hq⟩
end
end DL

namespace DL
open PySem PySem.Spec PyProof.Rows L2
/-! ## the promise of _law_error by its body -/
section
variable {P : Program} {w : World} {K : PySem.W.Frag} {mg : Str → Option Value} {base : Heap}
theorem ErrOk.mk' {x n : Str} {N : List Str} {st : Stmt} {f D : Addr} {fd : FuncData} {word : Str} {k : Nat} (F : Fun K x x st f fd) (hm : mg x = some (.ref f)) (S : FnScope N [n] (defScope st)) (hb : L2.Binds K fd [n] [])
    (walk : ∀ (cdv : Value) (A : Around) (outer : List PySem.Env) (s : Shared) (H : Hp) (a : Addr) (oe : Obj), L2N.Zn (.ref D) none oe → (∃ vs, oe.data = .fields vs) → L2H.HotC (L2H.cxH (L2N.CX P w) P w K mg base N x (defScope st) f cdv A outer s H E0 (a, oe)) →
      ∃ t, PSs (L2H.cxH (L2N.CX P w) P w K mg base N x (defScope st) f cdv A outer s H E0 (a, oe)) (defBody st) t ∧ ∀ Q : VK, (∀ H', (∀ b o, H b = some o → H' b = some o) → Q (.str word) H') → t { nx := fun _ H' => Q .non H', rt := Q } (L2.start N [.ref a]) H) :
    ErrOk P w K mg base (k + 1) x D word := by
  obtain ⟨oc, od, kV, doc, pm, an, cdv, ct, osl, rfl, lk, hcd⟩ := F.1
  refine ⟨f, hm, F.kp, fun A outer s H Q a oe hr hot hpin hz e0 hQ => ?_⟩
  refine Hot.run_hot (k := k) (N := N) (ps := [n]) (vs := [.ref a]) lk hcd S hr hpin e0 (hb s [.ref a] (e0.mod.kin.keeps fun b o e => (e0.bs b o e).1) rfl) (.cons rfl .nil) rfl fun hr' => ?_
  obtain ⟨vs, hv, hv2⟩ := hot.2
  obtain ⟨t, ht, hq⟩ := walk cdv A outer s H a oe hz ⟨vs, hv⟩ ⟨(a, oe), ⟨hot.1, vs, hv, hv2⟩, List.mem_cons_self⟩
  exact ⟨t, ht, hq Q hQ⟩
end
/-! ## defs that make lambdas -/
/-- the def x's own code object and its table -/
def MkD (K : PySem.W.Frag) (mg : Str → Option Value) (base : Heap) (x : Str) (fd : FuncData) : Prop := ∃ c P : Addr, PySem.W.tabIn K x = some (c, P) ∧ fd.code = .ref c ∧ LamX.TabB base mg c P
section
variable {P : Program} {w : World} {K : PySem.W.Frag} {mg : Str → Option Value} {base : Heap}
theorem fn_mkM {x y q qual : Str} {st : Stmt} {f : Addr} {fd : FuncData} {N ps : List Str} {k : Nat} {fb : En → M Fl} (F : Fun K x qual st f fd) (S : FnScope N ps (defScope st)) (M : MkD K mg base y fd) (hq : (qual ++ ".<locals>.") ++ "<lambda>" = q)
    (body : ∀ (E : XK) (cdv : Value) (A : Around) (outer : List PySem.Env) (s : Shared) (H : Hp), MkT (cxOf (L2N.CX P w) P w K mg base N qual (defScope st) f cdv A outer s H E) y q → Ctl (cxOf (L2N.CX P w) P w K mg base N qual (defScope st) f cdv A outer s H E) E k → DSs (cxOf (L2N.CX P w) P w K mg base N qual (defScope st) f cdv A outer s H E) E (defBody st) fb) :
    FnOk P w K mg base (L2N.CX P w) (k + 1) f fd ps (spM K mg (mkM ps.length N.length fb)) := by
  obtain ⟨oc, od, kV, doc, pm, an, cdv, ct, osl, rfl, lk, hcd⟩ := F.1
  obtain ⟨c, P0, h1, h2, h3⟩ := M
  have h2' : cdv = .ref c := h2
  subst h2'
  refine fn_of lk hcd S (fun vs H Q E h => ?_) (fun A outer s H vs Q E hr h => ?_)
  · obtain ⟨ds, wd, _, _, r, h⟩ := h
    rw [← r.length]; exact mkM_len h
  · obtain ⟨ds, wd, rfl, ok, r, h⟩ := h
    have hl := mkM_len h
    refine ⟨_, body E (.ref c) A outer s wd.H ⟨⟨c, P0, h1, rfl, h3⟩, hq⟩ (ctl_of S.nd hr), ?_⟩
    unfold mkM at h
    rw [if_pos hl, ← hl] at h
    refine ⟨_, wd, rfl, ok, repE_start r, (Fin.bind h).imp fun fl w1 l1 ok1 h1 => ?_⟩
    cases fl with
    | nx ρ => exact fun _ _ => fin_ret ok1 h1 .non .non
    | rt d => exact fun v rv => fin_ret ok1 h1 v rv
    | bk ρ => exact h1.elim
    | ct ρ => exact h1.elim
theorem Def.mkM' {x y q qual : Str} {st : Stmt} {f : Addr} {fd : FuncData} {N ps : List Str} {k : Nat} {fb : En → M Fl} (F : Fun K x qual st f fd) (hm : mg x = some (.ref f)) (S : FnScope N ps (defScope st)) (hb : L2.Binds K fd ps []) (M : MkD K mg base y fd) (hq : (qual ++ ".<locals>.") ++ "<lambda>" = q)
    (body : ∀ (E : XK) (cdv : Value) (A : Around) (outer : List PySem.Env) (s : Shared) (H : Hp), MkT (cxOf (L2N.CX P w) P w K mg base N qual (defScope st) f cdv A outer s H E) y q → Ctl (cxOf (L2N.CX P w) P w K mg base N qual (defScope st) f cdv A outer s H E) E k → DSs (cxOf (L2N.CX P w) P w K mg base N qual (defScope st) f cdv A outer s H E) E (defBody st) fb) : Def P w K mg base (k + 1) x ps (mkM ps.length N.length fb) :=
  ⟨f, fd, hm, F.kp, hb, fn_mkM F S M hq body⟩
end
/-! ## the end with tables -/
theorem tab_mk {K : PySem.W.Frag} {x : Str} {f c P : Addr} {oc e : Value} {od dd : Option Addr} {fd : FuncData} {sl sl' : Array (Option Value)} {vs : Array Value} (a : PySem.W.nsIn K mainGlobals x = some (some (.ref f))) (l : K.lookup f = some ⟨oc, od, .func fd, sl⟩) (hc : fd.code = .ref c) (lc : K.lookup c = some ⟨e, dd, .fields vs, sl'⟩) (hv : vs[11]? = some (.ref P)) :
    PySem.W.tabIn K x = some (c, P) := by
  unfold PySem.W.tabIn
  rw [a]
  simp only [l, hc, lc, hv]
def TabH (p : Program) (K : PySem.W.Frag) (h : Heap) : Prop := ∀ (x : Str) (c P : Addr), ((recsOf p).find? fun e => e.name == x).isSome = true → PySem.W.tabIn K x = some (c, P) → PySem.W.CodeHd h c P ∧ h.get? P = some (PySem.W.tabObj #[])
def spLawT (K : PySem.W.Frag) (Ps : List Addr) : Sp := fun vs H Q _ => (∀ P ∈ Ps, H P = some (.tbl #[])) ∧ ∃ (a : Addr) (ns : List Int), vs = [.ref a] ∧ SqL K H a (ns.map V.int) ∧ ns.length ≤ 63 ∧ ∀ H', Q (.bl true) H'
def tabC (t : Str × Str × Addr) : Option Cell := some (.tab t.1 t.2.1)
theorem law_spT {K : PySem.W.Frag} {mg : Str → Option Value} {m : List D → M D} {tabs : List (Str × Str × Addr)} (nd : (tabs.map (·.2.2)).Nodup) (ht : ∀ t ∈ tabs, TabOf K t.1 t.2.2) (h : ∀ ns : List Int, ns.length ≤ 63 → ∃ s, m [scriptD ns] (tabs.map tabC) = .ok (.bl true) s)
    (vs : List V) (H : Hp) (Q : VK) (E : XK) (z : spLawT K (tabs.map (·.2.2)) vs H Q E) : spM K mg m vs H Q E := by
  obtain ⟨hP, a, ns, rfl, hS, hl, q⟩ := z
  obtain ⟨s, hs⟩ := h ns hl
  have at_ : ∀ {n : Nat} {b : Addr} {c : Option Cell}, (tabs.map (·.2.2))[n]? = some b → (tabs.map tabC)[n]? = some c → ∃ t, t ∈ tabs ∧ b = t.2.2 ∧ c = tabC t := fun {n b c} e1 e2 => by
    rw [List.getElem?_map] at e1 e2
    cases hn : tabs[n]? with
    | none => rw [hn] at e1; cases e1
    | some t =>
      rw [hn] at e1 e2
      exact ⟨t, List.mem_of_getElem? hn, (Option.some.inj e1).symm, (Option.some.inj e2).symm⟩
  refine ⟨[scriptD ns], ⟨noT H, tabs.map (·.2.2), [], tabs.map tabC, H⟩, rfl, ⟨fun _ _ e => (noT_some e).1, by rw [List.length_map, List.length_map], fun n b c e1 e2 => ?_, fun n b e1 e2 => ?_, nd, (fun a ha => by cases ha), (fun a ps e => (noT_some e).2 ps rfl), (fun a ha => by cases ha), (fun _ _ _ _ a ha => by cases ha)⟩, .cons (.fz (noT_sq hS) (repL_script ns)) .nil, ?_⟩
  · obtain ⟨t, ht1, rfl, e⟩ := at_ e1 e2
    have hb := hP _ (List.mem_map.mpr ⟨t, ht1, rfl⟩)
    cases (Option.some.inj e : c = _)
    refine ⟨fun _ => ?_, ht t ht1, #[], hb, trivial, fun pos cv hc => ?_⟩
    · show noT H t.2.2 = none
      unfold noT
      rw [hb]
    · have z : codeAmong pos [] = some cv := hc
      simp [codeAmong] at z
  · obtain ⟨t, _, _, e⟩ := at_ e1 e2
    cases e
  · show Fin K mg E _ (m [scriptD ns] (tabs.map tabC)) _
    rw [hs]
    intro w' _ _ _ v r
    cases r; exact q _
theorem walk_ofTX {l : PySem.W.OpenLaw} {n k : Nat} {q : Program} {loose : List Str} {XP : (Str → Option Value) → Heap → Prop} {YP : World → Heap → Prop} {d : DefRec} {K : Params → PySem.W.Frag} {CX : World → CXT} {x : Str}
    (hn : l.most = some n) (hn2 : n ≤ sizeLine) (hdf : d.params.defaults = []) (hr : Room k callerA) (hY : ∀ (w : World) (h : Heap), YP w h → (K w.params).In h)
    (F : ∀ (w : World) (mg : Str → Option Value) (fa : Addr) (h : Heap), (K w.params).In h → h.Ns mainGlobals mg → mg d.name = some (.ref fa) → XP mg h → TabH q (K w.params) h → LamX.LawAtS l w (K w.params) (CX w) k n x mg fa h)
    (hCX : ∀ (w : World) (H : Hp) (s : Shared) (e : Value) (s' : Shared), CX w [] H s (fun _ _ _ => False) e s' → False) :
    PySem.W.WalkO q loose XP YP l.row.toRowW d [] (fun f vs => PySem.call f vs) := by
  refine Att.attach_callB hn hdf fun w s₀ s₁ mg mb fa o pm cd doc a vs ns G Y ho hd hcd hmg hobj hints hlen hbits hg => ?_
  have KX := hY w _ Y
  have TH : TabH q (K w.params) s₁.heap := fun y c P hr ht => by
    obtain ⟨dd, hdd⟩ := Option.isSome_iff_exists.mp hr
    exact PySem.W.tab_of G.T KX hdd ht
  obtain ⟨fd, cs, sp, hT, nT, C, hb, hsp, hF⟩ := F w mg fa _ KX G.T.g hmg G.X TH
  exact LamX.law_callTs KX G.T.g G.T.b G.T.builtins G.T.nolimit hg hT nT C G.T.bmain hobj hints (Nat.le_trans hlen hn2) hr hF hb (fun H hH hS => hsp H a ns hlen hbits hH hS) fun H e s' => hCX w H s₁ e s'
/-- what the end says of the law: from its promise over the tables -/
theorem lawAtS_of {l : PySem.W.OpenLaw} {w : World} {K : PySem.W.Frag} {k : Nat} {x : Str} {mg : Str → Option Value} {fa : Addr} {h : Heap} {fd : FuncData} {m : List D → M D} (p : Program) (tabs : List (Str × Str × Addr × Addr)) (TH : TabH p K h)
    (ht : ∀ t ∈ tabs, ((recsOf p).find? fun e => e.name == t.1).isSome = true ∧ PySem.W.tabIn K t.1 = some (t.2.2.1, t.2.2.2) ∧ K.lookup t.2.2.2 = none) (nd : (tabs.map (·.2.2.2)).Nodup)
    (hb : ∀ (s : Shared) (u : Value), BindsTo s fd ⟨[u], []⟩ [(x, u)]) (hm : ∀ ns : List Int, ns.length ≤ 63 → ∃ s, m [scriptD ns] (tabs.map fun t => some (.tab t.1 t.2.1)) = .ok (.bl true) s)
    (F : ∀ base : Heap, K.In base → base.Ns mainGlobals mg → (∀ t ∈ tabs, LamX.TabB base mg t.2.2.1 t.2.2.2) → FnOk l.prog w K mg base (L2N.CX l.prog w) k fa fd [x] (spM K mg m)) :
    LamX.LawAtS l w K (L2N.CX l.prog w) k 63 x mg fa h := by
  have key : ∀ {p : Addr × Addr}, p ∈ tabs.map (·.2.2) → ∃ t, t ∈ tabs ∧ p = t.2.2 := fun hp => by
    obtain ⟨t, h1, h2⟩ := List.mem_map.mp hp
    exact ⟨t, h1, h2.symm⟩
  refine ⟨fd, tabs.map (·.2.2), spLawT K (tabs.map (·.2.2.2)), fun p hp => ?_, fun p hp => ?_, fun p hp => ?_, hb, fun H a ns hl _ hH hS => ?_, fun base h1 h2 h3 => ?_⟩
  · obtain ⟨t, h1, rfl⟩ := key hp
    exact (TH _ _ _ (ht t h1).1 (ht t h1).2.1).2
  · obtain ⟨t, h1, rfl⟩ := key hp
    exact (ht t h1).2.2
  · obtain ⟨t, h1, rfl⟩ := key hp
    exact (TH _ _ _ (ht t h1).1 (ht t h1).2.1).1
  · refine ⟨fun P hP => ?_, a, ns, rfl, hS, hl, fun _ => rfl⟩
    obtain ⟨t, h1, rfl⟩ := List.mem_map.mp hP
    exact hH t.2.2 (List.mem_map.mpr ⟨t, h1, rfl⟩)
  · refine (F base h1 h2 fun t h4 => h3 t.2.2 (List.mem_map.mpr ⟨t, h4, rfl⟩)).imp fun vs H Q E z => ?_
    have e1 : (tabs.map fun t => (t.1, t.2.1, t.2.2.2)).map (·.2.2) = tabs.map (·.2.2.2) := by rw [List.map_map]; rfl
    have e2 : (tabs.map fun t => (t.1, t.2.1, t.2.2.2)).map tabC = tabs.map fun t => some (.tab t.1 t.2.1) := by rw [List.map_map]; rfl
    refine law_spT (tabs := tabs.map fun t => (t.1, t.2.1, t.2.2.2)) (by rw [e1]; exact nd) (fun t h4 => ?_) (fun ns hl => by rw [e2]; exact hm ns hl) vs H Q E (by rw [e1]; exact z)
    obtain ⟨t', h5, rfl⟩ := List.mem_map.mp h4
    exact ⟨_, (ht t' h5).2.1⟩
end DL

namespace DL
open PySem
/-! plain lemmas: exceptions, _law_outcome, bags behind a store's first cells -/
def throw {α : Type} (c : Str) : M α := fun s => .er c s
theorem bnd_throw {α β : Type} {c : Str} {k : α → M β} : bnd (throw c) k = throw c := rfl
theorem fbnd_throw {c : Str} {k : En → M Fl} : fBnd (throw c) k = throw c := rfl
theorem q_raise {x : Str} {ρ : En} : sRaise x ρ = throw x := rfl
section
variable {n : Nat} {x q c : Str} {cs : List Str} {f : En → M D} {ρ : En} {s : Sto} {Q : D → Sto → Prop}
theorem eout_er {s' : Sto} (hs : s[n]? = some (some (.tab x q))) (hf : f ρ s = .er c s') (hc : c ∈ cs) (h : Q (.tup [.str c]) s') : runs (eOut n x q cs f ρ) s Q := by
  refine ⟨_, s', ?_, h⟩
  show (match s[n]? with
    | some (some (.tab x' q')) => if x' = x ∧ q' = q then (match f ρ s with
      | .ok d s' => R.ok (D.tup [.str "value", d]) s'
      | .er c s' => if c ∈ cs then R.ok (D.tup [.str c]) s' else .no
      | .no => .no) else .no
    | _ => .no) = _
  rw [hs, hf]
  show (if x = x ∧ q = q then (if c ∈ cs then R.ok (D.tup [.str c]) s' else .no) else .no) = _
  rw [if_pos ⟨rfl, rfl⟩, if_pos hc]
theorem eout_ok (hs : s[n]? = some (some (.tab x q))) (h : runs (f ρ) s fun d s' => Q (.tup [.str "value", d]) s') : runs (eOut n x q cs f ρ) s Q := by
  obtain ⟨d, s', e, h⟩ := h
  refine ⟨_, s', ?_, h⟩
  show (match s[n]? with
    | some (some (.tab x' q')) => if x' = x ∧ q' = q then (match f ρ s with
      | .ok d s' => R.ok (D.tup [.str "value", d]) s'
      | .er c s' => if c ∈ cs then R.ok (D.tup [.str c]) s' else .no
      | .no => .no) else .no
    | _ => .no) = _
  rw [hs, e]
  show (if x = x ∧ q = q then R.ok (D.tup [.str "value", d]) s' else .no) = _
  rw [if_pos ⟨rfl, rfl⟩]
end
theorem p_ne_ok {x y : D} (hx : okD x = true) (hy : okD y = true) : neD x y = ret (.bl (!eqv x y)) := by
  funext s
  unfold neD
  rw [vw_self hx, vw_self hy, hx, hy]; rfl
theorem p_eq_ok {x y : D} (hx : okD x = true) (hy : okD y = true) : eqD x y = ret (.bl (eqv x y)) := by
  funext s
  unfold eqD
  rw [vw_self hx, vw_self hy, hx, hy]; rfl
theorem runs_bagsO {body : D → En → M Fl} {k : Nat} (Sh : En → Prop) {T : Int} {ρ : En} {s s0 : Sto} {Q : Fl → Sto → Prop} (hb : ∀ j, j < k → Bag s (s0.length + j) T) (h0 : Sh ρ) (hL : ∀ m, m < s0.length → s[m]? = s0[m]?)
    (hs : ∀ (n : Nat) (ρ : En) (s : Sto), s0.length ≤ n → (∀ m, m < s0.length → s[m]? = s0[m]?) → Sh ρ → Bag s n T → runs (body (.loc n) ρ) s fun fl s' => ∃ ρ', fl = .nx ρ' ∧ Sh ρ' ∧ Chg2 n s s') (hd : ∀ ρ s, (∀ m, m < s0.length → s[m]? = s0[m]?) → Sh ρ → Q (.nx ρ) s) : runs (forL body ((List.range k).map fun j => D.loc (s0.length + j)) ρ) s Q := by
  refine runs_for (fun i ρ s => Sh ρ ∧ (∀ m, m < s0.length → s[m]? = s0[m]?) ∧ ∀ j, i ≤ j → j < k → Bag s (s0.length + j) T) ⟨h0, hL, fun j _ h => hb j h⟩ (fun i d ρ s hi h => ?_) fun ρ s h => hd ρ s h.2.1 h.1
  have hi' : d = .loc (s0.length + i) ∧ i < k := by
    rw [List.getElem?_map] at hi
    cases q : (List.range k)[i]? with
    | none => rw [q] at hi; cases hi
    | some j =>
      rw [q] at hi
      obtain ⟨h1, h2⟩ := List.getElem?_eq_some_iff.mp q
      rw [List.length_range] at h1
      have : j = i := by simpa using h2.symm
      subst this
      exact ⟨(Option.some.inj hi).symm, h1⟩
  obtain ⟨rfl, hk⟩ := hi'
  refine runs_mono (hs (s0.length + i) ρ s (Nat.le_add_right _ _) h.2.1 h.1 (h.2.2 i (Nat.le_refl _) hk)) ?_
  rintro fl s' ⟨ρ', rfl, h1, h2⟩
  refine ⟨ρ', rfl, h1, fun m hm => ?_, fun j hj hjk => (h.2.2 j (by omega) hjk).keep h2 (by omega)⟩
  have hms : m < s.length := by
    have e := h.2.1 m hm
    rw [List.getElem?_eq_getElem hm] at e
    exact (List.getElem?_eq_some_iff.mp e).1
  exact (h2.at_ m (by omega) hms).trans (h.2.1 m hm)
end DL

namespace DL
open PySem PySem.Spec PyProof.Rows L2
/-! ## l.pop() -/
def popD (x : D) : M D := fun s => match x with
  | .loc n => match s[n]? with
    | some (some (.lst ds)) => match ds[ds.length - 1]? with
      | some d => .ok d (s.set n (some (.lst ds.dropLast)))
      | none => .no
    | _ => .no
  | _ => .no
def ePop (f : En → M D) : En → M D := fun ρ => bnd (f ρ) popD
theorem RepL.dropLast {K : PySem.W.Frag} {I : Hp} {L : List Addr} : ∀ {ds : List D} {vs : List V}, RepL K I L ds vs → RepL K I L ds.dropLast vs.dropLast
  | _, _, .nil => .nil
  | _, _, .cons a .nil => .nil
  | _, _, .cons a (.cons b t) => .cons a (RepL.dropLast (.cons b t))
section
variable {X : Cx} {E : XK} {pos apos p : Pos} {o e : Expr} {es : List Expr} {f1 : En → M D} {fa : En → M (List D)} {k j : Nat} {x mn c : Str} {C : Addr} {m : List D → M D}
theorem de_pop (ho : DE X E o f1) (hbase : attributeBase o "pop" X.env (eval o X.env) = eval o X.env := by rfl) (hline : (apos.endLine == pos.line) = true := by rfl) : DE X E (.Call (.Attribute o "pop" apos) [] [] pos) (ePop f1) :=
  (pe_bm0 PySem.F.plainAttrs_list PySem.F.slot_list_pop PySem.F.type_list_pop mt_pop ho hbase hline).imp fun σ H Q ⟨ρ, w, e, ok, re, h⟩ => by
    subst e
    refine ⟨ρ, w, rfl, ok, re, (Fin.bind h).imp fun d w1 l1 ok1 h1 v rv => ?_⟩
    unfold popD at h1
    split at h1
    · rename_i n
      split at h1
      · rename_i ds hs
        split at h1
        · rename_i d hd
          cases rv with
          | loc e =>
            rename_i a
            obtain ⟨_, xs, hx, rx⟩ := ok1.cell n a _ e hs
            obtain ⟨y, hy, ry⟩ := rx.get hd
            obtain ⟨ok2, l2⟩ := ok1.put (c := .lst ds.dropLast) (o := .lst xs.dropLast) e hs fun H' e => ⟨_, e, rx.dropLast⟩
            exact ⟨.inl ⟨rfl, xs, SqL.of hx⟩, a, xs, y, rfl, rfl, hx, by rw [← rx.length]; exact hy, h1 _ l2 ok2 rfl _ (ry.le l2)⟩
        · exact h1.elim
      · exact h1.elim
    · exact h1.elim
/-! ## isinstance(a, C) -/
/-- what isinstance asks of the class -/
structure IsC (K : PySem.W.Frag) (C : Addr) : Prop where
  ha : PySem.W.findIn K (.ref C) "__class__" = some (some (.builtin "object.__class__"))
  hn : PySem.W.specialIn K (.builtin "object.__class__") "__get__" = some (some (.builtin "getset_descriptor.__get__"))
  ht : PySem.W.takesIn K (.builtin "object.__class__") = some true
  hm : PySem.W.mroIn K C (.type "object") = some true
  tup : PySem.W.kitOne K (.type "tuple") (.ref C) = some false
  nf : PySem.W.notFirst K C (.type "tuple") = true
def isiO (x : Str) (a : D) : M D := fun s => match insD s x a with
  | some _ => .ok (.bl true) s
  | none => match a with
    | .tup _ => .ok (.bl false) s
    | _ => .no
theorem kit_self {K : PySem.W.Frag} {C : Addr} : PySem.W.kitOne K (.ref C) (.ref C) = some true := by
  unfold PySem.W.kitOne
  rw [if_pos (by simp)]
theorem isiO_fin {K : PySem.W.Frag} {mg : Str → Option Value} {w : Wd} {a : D} {v : V} {Q : D → Wd → Prop} (ok : w.Ok K) (cl : Cl K x C) (ic : IsC K C) (r : w.rep K a v) (h : Fin K mg E w (isiO x a w.s) Q) :
    ∃ (t : Value) (b : Bool), TyX K w.H v t ∧ PySem.W.kitOne K t (.ref C) = some b ∧ Q (.bl b) w := by
  unfold isiO at h
  split at h
  · rename_i fs hf
    obtain ⟨n, p, dx, vs, _, _, rfl, _, h5, _, _⟩ := rep_ins ok cl r hf
    exact ⟨.ref C, true, .base (.ins h5 cl.cl ic.ha ic.hn ic.ht ic.hm), kit_self, fin_ret ok h⟩
  · split at h
    · rename_i ds _
      obtain ⟨p, xs, rfl, hp, _⟩ := rep_tup r (show (D.tup ds).t? = some ds from rfl)
      exact ⟨.type "tuple", false, .base (.tup (ok.fr _ _ hp)), ic.tup, fin_ret ok h⟩
    · exact h.elim
theorem de_isiO (cl : Cl X.K x C) (ic : IsC X.K C) (hm : X.mg "isinstance" = none) (hx : X.mg x = some (.ref C)) (he : DE X E e f1) (hg : Gl X "isinstance" := by rfl) (hgx : Gl X x := by rfl) {p2 : Pos}
    (n1 : starEach [e, .Name x p2] X.env = (false, eval e X.env) :: starEach [.Name x p2] X.env := by rfl) (n2 : starEach [.Name x p2] X.env = (false, eval (.Name x p2) X.env) :: starEach [] X.env := by rfl)
    (hpl : (backTo pos (starEach [.Name x p2] X.env)).any (·.1) = false := by rfl) (hdx : (x == ("__debug__" : Str)) = false := by decide) :
    DE X E (.Call (.Name "isinstance" p) [e, .Name x p2] [] pos) (eCall (aCons f1 aNil) (on1 (isiO x))) :=
  (pe_callB call_isi hg hm PyProof.Rows.boot_isinstance (pa_cons he (pa_cons (pe_glob (v := .ref C) hgx hx rfl hdx) pa_nil n2) n1) (by decide) (by decide) n1 hpl).imp fun σ H Q ⟨ρ, w, e, ok, re, h⟩ => by
    subst e
    refine ⟨ρ, w, rfl, ok, re, ?_⟩
    have h1 := Fin.bind h
    refine (Fin.bind h1).imp fun d w1 l1 ok1 h2 v rv => ?_
    have h3 : Fin X.K X.mg E w1 (isiO x d w1.s) fun d w' => ∀ v, w'.rep X.K d v → Q v w'.H := ((Fin.bind h2) w1 (Wd.le.refl _) ok1 rfl) w1 (Wd.le.refl _) ok1 rfl
    obtain ⟨t, b, ty, kb, q⟩ := isiO_fin ok1 cl ic rv h3
    exact ⟨v, .ref C, t, .ref C, b, rfl, .own C, ty, kb, q _ (.bl b)⟩
/-! ## == by an own __eq__ -/
/-- an instance, or a tuple -/
def okR (x : Str) (o : D) : M Unit := fun s => match insD s x o with
  | some _ => .ok () s
  | none => match o with
    | .tup _ => .ok () s
    | _ => .no
def eqO (x : Str) (m : List D → M D) (a o : D) : M D := bnd (isIns x a) fun _ => bnd (okR x o) fun _ => bnd (m [a, o]) fun r s => match r.b? with
  | some b => .ok (.bl b) s
  | none => .no
theorem op_eqO {f : Addr} {sp : Sp} (hs : PySem.W.findIn X.K (.ref C) "__eq__" = some (some (.ref f))) (hf : PySem.W.isFn X.K (.ref f) = true) (F : FnR X.prog X.w X.K X.mg X.base (L2N.CX X.prog X.w) j f sp) (hr : Room j X.A) (hx : Passes (L2N.CX X.prog X.w) X E) :
    OpR X (compareOp .Eq) (fun x y H Q => ∃ a dx fs t, x = .ref a ∧ H a = some (.ins C dx fs) ∧ TyX X.K H y t ∧ PySem.W.notFirst X.K C t = true ∧ sp [.ref a, y] H (fun v H' => ∃ b : Bool, v = .bl b ∧ Q (.bl b) H') E) := by
  intro pins s σ H x y v u Q I rx ry h
  obtain ⟨a, dx, fs, t, rfl, ha, ty, hn, h⟩ := h
  obtain rfl : v = Value.ref a := rx
  obtain ⟨mA, O, _⟩ := ins_get I.hok ha
  obtain ⟨od, J, _⟩ := O.look
  obtain ⟨m0, hF⟩ := I.fr
  obtain ⟨P0, Z, hp, _⟩ := kit_of I ry ty
  show wpAny (model X.prog X.w) X.A (richCompare .Eq (.ref a) u) _ _ _
  refine PySem.W.cmp_K (op := .Eq) (tb := t) (Nat.lt_of_le_of_lt (by omega) hr.un) hF I.ok.mod.kin J (Z.ty _ _ I.kIn hp) hn hs hf ?_
  refine wpAny_mono (wpAny_call (run_fnR (us := [.ref a, u]) (vs := [.ref a, y]) F hr hx I (.cons rfl (.cons ry .nil)) h)) (fun r s' q => ?_) fun _ _ z => z
  obtain ⟨z, H', I', rz, b, rfl, q⟩ := q
  cases rz
  exact ⟨.bl b, H', I', rfl, q⟩
theorem od_eqO {K : PySem.W.Frag} {mg : Str → Option Value} (cl : Cl K x C) (ic : IsC K C) : OpD K mg E (fun x y H Q => ∃ a dx fs t, x = .ref a ∧ H a = some (.ins C dx fs) ∧ TyX K H y t ∧ PySem.W.notFirst K C t = true ∧ spM K mg m [.ref a, y] H (fun v H' => ∃ b : Bool, v = .bl b ∧ Q (.bl b) H') E) (eqO x m) := fun a o v u w Q ok rx ry q => by
  unfold eqO at q
  obtain ⟨n, p, dx, vs, h2, h3, rfl, h5, h6⟩ := isIns_fin ok cl rx (Fin.bind q)
  have h7 := Fin.bind h6
  have hty : ∃ t, TyX K w.H u t ∧ PySem.W.notFirst K C t = true ∧ Fin K mg E w ((bnd (m [a, o]) fun r s => match r.b? with | some b => .ok (.bl b) s | none => .no) w.s) fun d w' => ∀ v', w'.rep K d v' → Q v' w'.H := by
    unfold okR at h7
    split at h7
    · rename_i fs hfs
      obtain ⟨n', p', dx', vs', _, _, rfl, _, k5, _, _⟩ := rep_ins ok cl ry hfs
      exact ⟨.ref C, .base (.ins k5 cl.cl ic.ha ic.hn ic.ht ic.hm), by simp [PySem.W.notFirst], fin_ret ok h7⟩
    · split at h7
      · rename_i ds _
        obtain ⟨p', xs, rfl, hp', _⟩ := rep_tup ry (show (D.tup ds).t? = some ds from rfl)
        exact ⟨.type "tuple", .base (.tup (ok.fr _ _ hp')), ic.nf, fin_ret ok h7⟩
      · exact h7.elim
  obtain ⟨t, ty, hn, h8⟩ := hty
  refine ⟨p, dx, vs, t, rfl, h5, ty, hn, [a, o], w, rfl, ok, .cons rx (.cons ry .nil), (Fin.bind h8).imp fun d w1 l1 ok1 h9 v rv => ?_⟩
  split at h9
  · rename_i b hb
    exact ⟨b, rep_bl rv hb, h9 w1 (Wd.le.refl _) ok1 rfl _ (.bl b)⟩
  · exact h9.elim
theorem c_eqO (C0 : Ctl X E k) (cl : Cl X.K x C) (ic : IsC X.K C) (F : SpecR X.prog X.w X.K X.mg X.base j C "__eq__" m) (hk : j ≤ k := by decide) : CmpD X E .Eq (eqO x m) :=
  let ⟨_, hs, hf, F0⟩ := F.ex
  ⟨_, op_eqO hs hf F0 (C0.room.mono hk) C0.pass, od_eqO cl ic⟩
/-! ## C.f, C.m(..), cls(..) -/
theorem de_ccon {mc : Value} {f : Str} {i : Int} {u : Value} {p2 : Pos} (hx : X.mg x = some (.ref C)) (r : ClX.CRead X.K C mc) (kc : ClX.CVal X.K C mc f (.int i) u) (hgx : Gl X x := by rfl) (hdx : (x == ("__debug__" : Str)) = false := by decide)
    (hb : attributeBase (.Name x p2) f X.env (eval (.Name x p2) X.env) = eval (.Name x p2) X.env := by rfl) : DE X E (.Attribute (.Name x p2) f pos) (eK (.int i)) :=
  (ClX.pe_cval (pe_glob (v := .ref C) hgx hx rfl hdx) hb).imp fun σ H Q ⟨ρ, w, e, ok, re, h⟩ => by
    subst e
    exact ⟨C, mc, .int i, u, rfl, r, kc, h w (Wd.le.refl w) ok rfl _ (.int i)⟩
/-- a classmethod -/
structure CMetR (P : Program) (w : World) (K : PySem.W.Frag) (mg : Str → Option Value) (base : Heap) (k : Nat) (C : Addr) (x : Str) (m : List D → M D) : Prop where
  ex : ∃ (p g : Addr) (mc : Value), ClX.CRead K C mc ∧ ClX.CMet K C mc x p g ∧ FnR P w K mg base (L2N.CX P w) k g (spM K mg m)
def eCMeth (x : Str) (fa : En → M (List D)) (m : List D → M D) : En → M D := fun ρ => bnd (fa ρ) fun ds => m (.gl x :: ds)
theorem de_cmeth {pl : Sem Bool} {p2 : Pos} (C0 : Ctl X E k) (cl : Cl X.K x C) (hx : X.mg x = some (.ref C)) (F : CMetR X.prog X.w X.K X.mg X.base j C mn m) (ha : DA X E (e :: es) fa) (hk : j ≤ k := by decide) (hgx : Gl X x := by rfl) (hdx : (x == ("__debug__" : Str)) = false := by decide)
    (hst : starEach (e :: es) X.env = (false, eval e X.env) :: starEach es X.env := by rfl) (hpl : (backTo pos (starEach es X.env)).any (·.1) = false := by rfl)
    (ht : eval (.Call (.Attribute (.Name x p2) mn apos) (e :: es) [] pos) X.env = (do
      let ov ← eval (.Name x p2) X.env
      standAt apos.atName
      let (f, first) ← holding [ov] (getMethod ov mn pl)
      callWith pos f first (backTo pos (starEach (e :: es) X.env)) (backToKw pos (keywordEach [] X.env))) := by rfl) :
    DE X E (.Call (.Attribute (.Name x p2) mn apos) (e :: es) [] pos) (eCMeth x fa m) := by
  obtain ⟨p0, g, mc, h1, h2, h3⟩ := F.ex
  refine (ClX.pe_cmeth (pe_glob (v := .ref C) hgx hx rfl hdx) h1 h2 h3 (C0.room.mono hk) C0.pass ha hst hpl ht).imp fun σ H Q ⟨ρ, w, e0, ok, re, h⟩ => ?_
  subst e0
  refine ⟨rfl, ρ, w, rfl, ok, re, (Fin.bind h).imp fun ds w1 l1 ok1 h4 vs rv => ?_⟩
  exact ⟨.gl x :: ds, w1, rfl, ok1, .cons (.gl cl.ns) rv, h4⟩
/-- is it the class x -/
def isGl (x : Str) (o : D) : M Unit := fun s => match o with
  | .gl y => if y = x then .ok () s else .no
  | _ => .no
def eMakeL (x : Str) (fc : En → M D) (fa : En → M (List D)) (dd : List D) (m : List D → M D) : En → M D := fun ρ => bnd (fc ρ) fun c => bnd (isGl x c) fun _ => bnd (fa ρ) (dfl dd (mkIns x m))
theorem de_makeL {n : Nat} {ps ks : List Str} {dv : List V} (dd : List D) (C0 : Ctl X E k) (cl : Cl X.K x C) (F : Ini X.prog X.w X.K X.mg X.base j x C n ps dv ks m) (hc : DE X E (.Name c p) f1) (ha : DA X E (e :: es) fa) (hd : ∀ w : Wd, w.repL X.K dd dv) (hk : j + 1 ≤ k := by decide)
    (he : starEach (e :: es) X.env = (false, eval e X.env) :: starEach es X.env := by rfl) (hpl : (backTo pos (starEach es X.env)).any (·.1) = false := by rfl) : DE X E (.Call (.Name c p) (e :: es) [] pos) (eMakeL x f1 fa dd m) := by
  obtain ⟨f, fd, M0, hm, ⟨us, hv, hb⟩, _, F0⟩ := F.ex
  refine ⟨fun pins s σ H Q I ⟨ρ, w, e0, ok, re, h⟩ => ?_⟩
  subst e0
  refine wpAny_Call_Name_kw (thn (hc.run pins s σ w.H (fun v H1 => v = .ref C ∧ tMake C (spM X.K X.mg m) dv E (tDA X.K X.mg E fa) σ H1 Q) I ⟨ρ, w, rfl, ok, re, (Fin.bind h).imp fun d w1 l1 ok1 h1 v rv => ?_⟩) fun u s1 ⟨v, H1, I1, r1, ev, q⟩ => ?_)
  · have h2 := Fin.bind h1
    unfold isGl at h2
    split at h2
    · rename_i y
      split at h2
      · rename_i hy
        subst hy
        have h3 := fin_ret ok1 h2
        cases rv with
        | gl e =>
          have z := e.symm.trans cl.ns
          cases z
          refine ⟨rfl, ρ, w1, rfl, ok1, re.le l1, (Fin.bind h3).imp fun ds w2 l2 ok2 h4 vs rv2 a dx na nd ne => ?_⟩
          exact mk_fin ok2 cl (rv2.append (hd w2)) h4 a dx na nd ne
      · exact h2.elim
    · exact h2.elim
  · subst ev
    obtain rfl : u = Value.ref C := r1
    refine PySem.W.callWith_K (h₀ := X.base) I.ok.mod.kin M0.kp (thn (ha.run pos pins s1 σ H1 _ I1 q) fun us2 s2 ⟨vs, H2, I2, r, q2⟩ => ⟨I2.kIn, ?_⟩) he hpl
    exact run_make M0 F0 (C0.room.mono hk) hb hv C0.pass I2 r q2
end
end DL

namespace DL
open PySem
/-! plain: m ends with the error c -/
def rs {α : Type} (m : M α) (s : Sto) (c : Str) (Q : Sto → Prop) : Prop := ∃ s', m s = .er c s' ∧ Q s'
section
variable {α β : Type} {m : M α} {k : α → M β} {s : Sto} {c x mn : Str} {Q : Sto → Prop} {ρ : En} {t : En → M Bool} {s1 s2 : En → M Fl} {f fo : En → M D} {fa : En → M (List D)} {g : D → En → M En} {md : List D → M D} {nn i : Nat}
theorem rs_bnd1 (h : rs m s c Q) : rs (bnd m k) s c Q := by
  obtain ⟨s', e, q⟩ := h
  exact ⟨s', by show (m s).bind k = _; rw [e]; rfl, q⟩
theorem rs_bnd2 (h : runs m s fun a s' => rs (k a) s' c Q) : rs (bnd m k) s c Q := by
  obtain ⟨a, s', e, s2, e2, q⟩ := h
  exact ⟨s2, by show (m s).bind k = _; rw [e]; exact e2, q⟩
theorem rs_mono {Q' : Sto → Prop} (h : rs m s c Q) (k : ∀ s', Q s' → Q' s') : rs m s c Q' := let ⟨s', e, q⟩ := h; ⟨s', e, k s' q⟩
theorem rs_throw (h : Q s) : rs (throw c : M α) s c Q := ⟨s, rfl, h⟩
theorem rs_of (e : m = throw c) (h : Q s) : rs m s c Q := ⟨s, by rw [e]; rfl, h⟩
theorem rs_raise (h : Q s) : rs (sRaise c ρ) s c Q := ⟨s, rfl, h⟩
theorem rs_if (h : runs (t ρ) s fun b s' => (b = true ∧ rs (s1 ρ) s' c Q) ∨ (b = false ∧ rs (s2 ρ) s' c Q)) : rs (sIf t s1 s2 ρ) s c Q := rs_bnd2 (runs_mono h fun b s' q => by
  rcases q with ⟨rfl, q⟩ | ⟨rfl, q⟩ <;> exact q)
theorem rs_if1 (h : runs (t ρ) s fun b s' => b = true ∧ rs (s1 ρ) s' c Q) : rs (sIf t s1 s2 ρ) s c Q := rs_if (runs_mono h fun _ _ q => .inl q)
theorem rs_if2 (h : runs (t ρ) s fun b s' => b = false ∧ rs (s2 ρ) s' c Q) : rs (sIf t s1 s2 ρ) s c Q := rs_if (runs_mono h fun _ _ q => .inr q)
theorem rs_seq1 (h : rs (s1 ρ) s c Q) : rs (sSeq s1 s2 ρ) s c Q := rs_bnd1 h
theorem rs_seq2 (h : runs (s1 ρ) s fun fl s' => ∃ ρ', fl = .nx ρ' ∧ rs (s2 ρ') s' c Q) : rs (sSeq s1 s2 ρ) s c Q := rs_bnd2 (runs_mono h fun fl s' q => by
  obtain ⟨ρ', rfl, q⟩ := q
  exact q)
theorem rs_exp (h : rs (f ρ) s c Q) : rs (sExp f ρ) s c Q := rs_bnd1 h
theorem rs_asg (h : rs (f ρ) s c Q) : rs (sAsg f g ρ) s c Q := rs_bnd1 h
theorem rs_ret (h : rs (f ρ) s c Q) : rs (sRet f ρ) s c Q := rs_bnd1 h
theorem rs_call (h : runs (fa ρ) s fun ds s' => rs (md ds) s' c Q) : rs (eCall fa md ρ) s c Q := rs_bnd2 h
theorem rs_callA (h : rs (fa ρ) s c Q) : rs (eCall fa md ρ) s c Q := rs_bnd1 h
theorem rs_cons1 (h : rs (f ρ) s c Q) : rs (aCons f fa ρ) s c Q := rs_bnd1 h
theorem rs_cons2 (h : runs (f ρ) s fun _ s' => rs (fa ρ) s' c Q) : rs (aCons f fa ρ) s c Q := rs_bnd2 (runs_mono h fun _ _ q => rs_bnd1 q)
theorem rs_mk {np : Nat} {fb : En → M Fl} {ds : List D} (hl : ds.length = np) (h : rs (fb (ds.map some ++ List.replicate (nn - np) none)) s c Q) : rs (mkM np nn fb ds) s c Q := by
  unfold mkM
  rw [if_pos hl]
  exact rs_bnd1 h
theorem rs_star {np : Nat} {ds : List D} (hl : np ≤ ds.length ∧ ds.length ≤ 16777216) (h : rs (md (ds.take np ++ [.tup (ds.drop np)])) s c Q) : rs (starM np md ds) s c Q := by
  unfold starM
  rw [if_pos (by rw [Bool.and_eq_true]; exact ⟨decide_eq_true hl.1, sz_small hl.2⟩)]
  exact h
theorem rs_for {fi : En → M (List D)} (h : runs (fi ρ) s fun ds s' => rs (forL (fun d ρ => bnd (g d ρ) s1) ds ρ) s' c Q) : rs (sFor fi g s1 ρ) s c Q := rs_bnd2 h
theorem rs_for1 {body : D → En → M Fl} {d : D} {ds : List D} (h : rs (body d ρ) s c Q) : rs (forL body (d :: ds) ρ) s c Q := rs_bnd1 h
theorem rs_for2 {body : D → En → M Fl} {d : D} {ds : List D} (h : runs (body d ρ) s fun fl s' => ∃ ρ', fl = .nx ρ' ∧ rs (forL body ds ρ') s' c Q) : rs (forL body (d :: ds) ρ) s c Q := rs_bnd2 (runs_mono h fun fl s' q => by
  obtain ⟨ρ', rfl, q⟩ := q
  exact q)
theorem rs_body {d : D} (h : runs (g d ρ) s fun ρ' s' => rs (s1 ρ') s' c Q) : rs ((fun d ρ => bnd (g d ρ) s1) d ρ) s c Q := rs_bnd2 h
theorem rs_meth {fs : List (Str × D)} (h : runs (f ρ) s fun o s' => ∃ fs, insD s' x o = some fs ∧ fs.lookup mn = none ∧ runs (fa ρ) s' fun ds s2 => rs (md (o :: ds)) s2 c Q) : rs (eMeth x mn f fa md ρ) s c Q := by
  refine rs_bnd2 (runs_mono h ?_)
  rintro o s' ⟨fs, h1, h2, h3⟩
  refine rs_bnd2 ?_
  rw [r_noFld h1 h2]
  exact rs_bnd2 h3
theorem eout_rs {n : Nat} {q : Str} {cs : List Str} {QD : D → Sto → Prop} (hs : s[n]? = some (some (.tab x q))) (h : rs (f ρ) s c fun s' => QD (.tup [.str c]) s') (hc : c ∈ cs) : runs (eOut n x q cs f ρ) s QD := by
  obtain ⟨s', e, h⟩ := h
  exact eout_er hs e hc h
end
/-! plain: the rest of Browser -/
section
variable {s : Sto} {n : Nat} {ρ : En} {d e o a : D} {x mn : Str} {fs : List (Str × D)} {m : List D → M D} {ds dd : List D} {Q : D → Sto → Prop} {QU : Unit → Sto → Prop} {f1 fc : En → M D} {fa : En → M (List D)} {b : Bool}
theorem r_epop : runs (ePop f1 ρ) s Q = runs (f1 ρ) s (kM popD Q) := r_bnd
theorem r_popD (h : s[n]? = some (some (.lst (ds ++ [d])))) : runs (popD (.loc n)) s Q = Q d (s.set n (some (.lst ds))) := by
  refine runs_okE ?_
  show (match s[n]? with
    | some (some (.lst ds)) => match ds[ds.length - 1]? with
      | some d => R.ok d (s.set n (some (.lst ds.dropLast)))
      | none => .no
    | _ => .no) = _
  rw [h]
  have e1 : (ds ++ [d])[(ds ++ [d]).length - 1]? = some d := by
    rw [List.length_append, List.length_singleton, Nat.add_sub_cancel, List.getElem?_append_right (Nat.le_refl _), Nat.sub_self]; rfl
  simp only [e1, List.dropLast_concat]
theorem r_isiO1 (h : insD s x a = some fs) : runs (isiO x a) s Q = Q (.bl true) s := by
  refine runs_okE ?_
  unfold isiO
  rw [h]
theorem r_isiO0 : runs (isiO x (.tup ds)) s Q = Q (.bl false) s := runs_okE rfl
theorem r_okR1 (h : insD s x o = some fs) : runs (okR x o) s QU = QU () s := by
  refine runs_okE ?_
  unfold okR
  rw [h]
theorem r_okR0 : runs (okR x (.tup ds)) s QU = QU () s := runs_okE rfl
theorem r_eqO (h : insD s x a = some fs) (ho : (∃ gs, insD s x o = some gs) ∨ ∃ ds, o = .tup ds) (hr : runs (m [a, o]) s fun d s' => d = .bl b ∧ s' = s) : runs (eqO x m a o) s Q = Q (.bl b) s := by
  obtain ⟨d, s1, e, rfl, rfl⟩ := hr
  refine runs_okE ?_
  have e1 : isIns x a s1 = .ok () s1 := by unfold isIns; rw [h]
  have e2 : okR x o s1 = .ok () s1 := by
    rcases ho with ⟨gs, hg⟩ | ⟨ds, rfl⟩
    · unfold okR; rw [hg]
    · rfl
  unfold eqO
  show (isIns x a s1).bind _ = _
  rw [e1]
  show (okR x o s1).bind _ = _
  rw [e2]
  show ((m [a, o] s1).bind _) = _
  rw [e]; rfl
theorem r_cmeth : runs (eCMeth x fa m ρ) s Q = runs (fa ρ) s (kM (fun ds => m (.gl x :: ds)) Q) := r_bnd
theorem r_makeL : runs (eMakeL x fc fa dd m ρ) s Q = runs (bnd (fc ρ) fun c => bnd (isGl x c) fun _ => bnd (fa ρ) (dfl dd (mkIns x m))) s Q := rfl
theorem r_isGl : runs (isGl x (.gl x)) s QU = QU () s := by
  refine runs_okE ?_
  show (if x = x then R.ok () s else .no) = _
  rw [if_pos rfl]
end
end DL

namespace DL
namespace Law
open PySem PySem.Spec PyProof.Rows L2
/-! ### the mirrors -/
def fb_in_range : En → M Fl := (sRet (eAnd (eCall (aCons (eVar 0) aNil) (on1 (isiD .int))) (eAnd (eNot (eCall (aCons (eVar 0) aNil) (on1 (isiD .bool)))) (eChain leD leD (eVar 1) (eVar 0) (eVar 2)))))
def m_in_range : List D → M D := mkM 3 3 fb_in_range
def fb_Browser___contains__ : En → M Fl := (sSeq (sAsg (e2 mulD (e2 ixD (e2 ixD (e2 ixD (eFld "Browser" "states" (eVar 0)) (eNeg (eK (.int 1)))) (eK (.int 0))) (eK (.int 0))) (e2 ixD (e2 ixD (eFld "Browser" "states" (eVar 0)) (eNeg (eK (.int 1)))) (eK (.int 1)))) (gN 2)) (sRet (eCall (aCons (eVar 1) (aCons (eVar 2) (aCons (e2 subD (e2 addD (eVar 2) (e2 ixD (e2 ixD (e2 ixD (eFld "Browser" "states" (eVar 0)) (eNeg (eK (.int 1)))) (eK (.int 0))) (eK (.int 0)))) (eK (.int 1))) aNil))) m_in_range)))
def m_Browser___contains__ : List D → M D := mkM 2 3 fb_Browser___contains__
def fb_Browser___eq__ : En → M Fl := (sRet (eAnd (eCall (aCons (eVar 1) aNil) (on1 (isiO "Browser"))) (eAnd (e2 eqD (eFld "Browser" "menu" (eVar 0)) (eFld "Browser" "menu" (eVar 1))) (e2 eqD (e2 ixD (eFld "Browser" "states" (eVar 0)) (eNeg (eK (.int 1)))) (e2 ixD (eFld "Browser" "states" (eVar 1)) (eNeg (eK (.int 1))))))))
def m_Browser___eq__ : List D → M D := mkM 2 2 fb_Browser___eq__
def fb_is_kind : En → M Fl := (sSeq (sIf (bOr (bNot (toT (eCall (aCons (eVar 0) aNil) (on1 (isiD .tup))))) (bOr (toT (e2 neD (eCall (aCons (eVar 0) aNil) (on1 lenD)) (eK (.int 2)))) (bNot (toT (eCall (aCons (e2 ixD (eVar 0) (eK (.int 0))) (aCons (eK (.int 1)) (aCons (eK (.int 1000)) aNil))) m_in_range))))) (sRet (eK (.bl false))) sNx) (sRet (eCall (aCons (e2 ixD (eVar 0) (eK (.int 1))) (aCons (eK (.int 0)) (aCons (e2 subD (e2 ixD (eVar 0) (eK (.int 0))) (eK (.int 1))) aNil))) m_in_range)))
def m_is_kind : List D → M D := mkM 1 1 fb_is_kind
def fb_is_menu : En → M Fl := (sSeq (sIf (bOr (bNot (toT (eCall (aCons (eVar 0) aNil) (on1 (isiD .tup))))) (bNot (toT (eChain leD leD (eK (.int 1)) (eCall (aCons (eVar 0) aNil) (on1 lenD)) (eK (.int 6)))))) (sRet (eK (.bl false))) sNx) (sSeq (sIf (bNot (toT (eCall (aCons (eLc [1] (iSeqD (eVar 0)) (Tg.d (.nm 1)) tYesD (eCall (aCons (eVar 1) aNil) m_is_kind)) aNil) (on1 allD)))) (sRet (eK (.bl false))) sNx) (sRet (eCall (aCons (eLc [1, 2] (iZipD (eVar 0) (eSl (eVar 0) (oSome (eK (.int 1))) oNone)) (Tg.d (.tp [1, 2])) tYesD (e2 ltD (e2 ixD (eVar 1) (eK (.int 0))) (e2 ixD (eVar 2) (eK (.int 0))))) aNil) (on1 allD)))))
def m_is_menu : List D → M D := mkM 1 3 fb_is_menu
def fb_check_menu : En → M Fl := (sIf (bNot (toT (eCall (aCons (eVar 0) aNil) m_is_menu))) (sRaise "InvalidMenu") sNx)
def m_check_menu : List D → M D := mkM 1 1 fb_check_menu
def fb_Browser___init__ : En → M Fl := (sSeq (sExp (eCall (aCons (eVar 1) aNil) m_check_menu)) (sSeq (sIf (bNot (toT (eCall (aCons (eVar 2) (aCons (eK (.int 0)) (aCons (eK (.int 1000000000000000)) aNil))) m_in_range))) (sRaise "InvalidItem") sNx) (sSeq (sFldD "Browser" "menu" (eVar 0) (eVar 1)) (sFldD "Browser" "states" (eVar 0) (eLoc (aCons (eTup (aCons (e2 ixD (eVar 1) (eK (.int 0))) (aCons (e2 divD (eVar 2) (e2 ixD (e2 ixD (eVar 1) (eK (.int 0))) (eK (.int 0)))) aNil))) aNil))))))
def m_Browser___init__ : List D → M D := mkM 3 3 fb_Browser___init__
def fb_Browser_anchor : En → M Fl := (sRet (e2 addD (e2 mulD (e2 ixD (e2 ixD (e2 ixD (eFld "Browser" "states" (eVar 0)) (eNeg (eK (.int 1)))) (eK (.int 0))) (eK (.int 0))) (e2 ixD (e2 ixD (eFld "Browser" "states" (eVar 0)) (eNeg (eK (.int 1)))) (eK (.int 1)))) (e2 ixD (e2 ixD (e2 ixD (eFld "Browser" "states" (eVar 0)) (eNeg (eK (.int 1)))) (eK (.int 0))) (eK (.int 1)))))
def m_Browser_anchor : List D → M D := mkM 1 1 fb_Browser_anchor
def fb_changed : En → M Fl := (sRet (e2 divD (e2 addD (e2 mulD (e2 ixD (eVar 0) (eK (.int 0))) (eVar 1)) (e2 ixD (eVar 0) (eK (.int 1)))) (e2 ixD (eVar 2) (eK (.int 0)))))
def m_changed : List D → M D := mkM 3 3 fb_changed
def fb_kind_on : En → M Fl := (sSeq (sFor (iSeqD (eVar 0)) (gN 2) (sIf (bAnd (toT (eCall (aCons (eVar 1) aNil) (on1 (isiD .int)))) (bAnd (bNot (toT (eCall (aCons (eVar 1) aNil) (on1 (isiD .bool))))) (toT (e2 eqD (e2 ixD (eVar 2) (eK (.int 0))) (eVar 1))))) (sRet (eVar 2)) sNx)) (sRaise "NoSize"))
def m_kind_on : List D → M D := mkM 2 3 fb_kind_on
def fb_Browser_choose : En → M Fl := (sSeq (sAsg (e2 ixD (eFld "Browser" "states" (eVar 0)) (eNeg (eK (.int 1)))) (gTupD 2 (gConsD (gN 3) (gConsD (gN 4) gNilD)))) (sSeq (sFor (iSeqD (eVar 1)) (gN 2) (sSeq (sAsg (eCall (aCons (eFld "Browser" "menu" (eVar 0)) (aCons (eVar 2) aNil)) m_kind_on) (gN 5)) (sPar 3 4 (eVar 5) (eCall (aCons (eVar 3) (aCons (eVar 4) (aCons (eVar 5) aNil))) m_changed)))) (sSeq (sExp (eApp (eFld "Browser" "states" (eVar 0)) (eTup (aCons (eVar 3) (aCons (eVar 4) aNil))))) (sRet (eVar 4)))))
def m_Browser_choose : List D → M D := starM 1 (mkM 2 6 fb_Browser_choose)
def fb_check_number : En → M Fl := (sIf (bNot (toT (eCall (aCons (eVar 0) (aCons (eVar 1) (aCons (eVar 2) aNil))) m_in_range))) (sRaise "InvalidNumber") sNx)
def m_check_number : List D → M D := mkM 3 3 fb_check_number
def fb_kind_of : En → M Fl := (sSeq (sExp (eCall (aCons (eVar 0) (aCons (eK (.int 1)) (aCons (eK (.int 1000)) aNil))) m_check_number)) (sSeq (sIf (bOr (bNot (toT (eCall (aCons (eVar 1) aNil) (on1 (isiD .str))))) (toT (e2 (memD true) (eVar 1) (eTup (aCons (eK (.str "first")) (aCons (eK (.str "middle")) (aCons (eK (.str "last")) aNil))))))) (sRaise "InvalidKind") sNx) (sSeq (sIf (toT (e2 eqD (eVar 1) (eK (.str "middle")))) (sRet (eTup (aCons (eVar 0) (aCons (e2 divD (eVar 0) (eK (.int 2))) aNil)))) sNx) (sRet (eTup (aCons (eVar 0) (aCons (eIf (toT (e2 eqD (eVar 1) (eK (.str "last")))) (e2 subD (eVar 0) (eK (.int 1))) (eK (.int 0))) aNil)))))))
def m_kind_of : List D → M D := mkM 2 2 fb_kind_of
def fb_Browser_middle : En → M Fl := (sSeq (sAsg (eLc [3] (iSeqD (eVar 1)) (Tg.d (.nm 3)) tYesD (eCallK 1 1 (aCons (eVar 3) aNil) (aCons (eK (.str "middle")) aNil) m_kind_of)) (gN 2)) (sRet (eMakeL "Browser" (eVar 0) (aCons (eCall (aCons (eLc [4, 5] (iSeqD (eCall (aCons (eLc [5] (iSeqD (eVar 2)) (Tg.d (.nm 5)) tYesD (eTup (aCons (e2 ixD (eVar 5) (eK (.int 0))) (aCons (eVar 5) aNil)))) aNil) (on1 (asortD mkLst)))) (Tg.d (.tp [4, 5])) tYesD (eVar 5)) aNil) (on1 tupleD)) aNil) [.int 0] m_Browser___init__)))
def m_Browser_middle : List D → M D := starM 1 (mkM 2 6 fb_Browser_middle)
def fb_Browser_page : En → M Fl := (sRet (e2 ixD (e2 ixD (eFld "Browser" "states" (eVar 0)) (eNeg (eK (.int 1)))) (eK (.int 1))))
def m_Browser_page : List D → M D := mkM 1 1 fb_Browser_page
def fb_Browser_turn : En → M Fl := (sSeq (sAsg (e2 ixD (eFld "Browser" "states" (eVar 0)) (eNeg (eK (.int 1)))) (gTupD 2 (gConsD (gN 2) (gConsD (gN 3) gNilD)))) (sSeq (sIf (bNot (toT (eCall (aCons (eVar 1) (aCons (eNeg (eVar 3)) (aCons (e2 subD (eCon "Browser" "MOST" (.int 1000000000000000) (eVar 0)) (eVar 3)) aNil))) m_in_range))) (sRaise "InvalidPage") sNx) (sSeq (sExp (eApp (eFld "Browser" "states" (eVar 0)) (eTup (aCons (eVar 2) (aCons (e2 addD (eVar 3) (eVar 1)) aNil))))) (sRet (e2 addD (eVar 3) (eVar 1))))))
def m_Browser_turn : List D → M D := mkM 2 4 fb_Browser_turn
def fb_Browser_undo : En → M Fl := (sSeq (sIf (toT (e2 eqD (eCall (aCons (eFld "Browser" "states" (eVar 0)) aNil) (on1 lenD)) (eK (.int 1)))) (sRaise "NothingToUndo") sNx) (sExp (ePop (eFld "Browser" "states" (eVar 0)))))
def m_Browser_undo : List D → M D := mkM 1 1 fb_Browser_undo
def fb_law_well : En → M Fl := (sSeq (sIf (toT (e2 geD (eVar 0) (e2 powD (eK (.int 10)) (eK (.int 18))))) (sRet (eLoc (aCons (e2 subD (eVar 0) (e2 powD (eK (.int 10)) (eK (.int 18)))) (aCons (e2 modD (eVar 0) (eK (.int 2305843009213693951))) (aCons (eVar 1) aNil))))) sNx) (sRet (eLoc (aCons (eK (.int 0)) (aCons (e2 modD (eVar 0) (eK (.int 2305843009213693951))) (aCons (eVar 1) aNil))))))
def m_law_well : List D → M D := mkM 2 2 fb_law_well
def fb_law_bags : En → M Fl := (sRet (eLc [2, 3] (iEnumD (e2 addD (eSl (eVar 0) oNone (oSome (eVar 1))) (eLst (aCons (eK (.int 0)) aNil)))) (Tg.d (.tp [2, 3])) tYesD (eCall (aCons (eVar 3) (aCons (e2 mulD (eK (.int 977)) (eVar 2)) aNil)) m_law_well)))
def m_law_bags : List D → M D := mkM 2 4 fb_law_bags
def fb_law_take : En → M Fl := (sSeq (sIf (toT (e2 gtD (e2 ixD (eVar 0) (eK (.int 0))) (eK (.int 0)))) (sSeq (sAsg (e2 modD (e2 ixD (eVar 0) (eK (.int 0))) (eVar 1)) (gN 4)) (sSeq (sAsg (e2 divD (e2 ixD (eVar 0) (eK (.int 0))) (eVar 1)) (gSubD (eVar 0) (eK (.int 0)))) (sRet (eVar 4)))) sNx) (sSeq (sAsg (e2 addD (e2 ixD (eVar 0) (eK (.int 2))) (eK (.int 1))) (gSubD (eVar 0) (eK (.int 2)))) (sSeq (sAsg (eK (.int 2305843009213693951)) (gN 2)) (sSeq (sAsg (e2 modD (e2 addD (e2 ixD (eVar 0) (eK (.int 1))) (e2 mulD (eK (.int 1000003)) (e2 ixD (eVar 0) (eK (.int 2))))) (eVar 2)) (gN 3)) (sSeq (sAsg (e2 modD (e2 addD (e2 addD (e2 mulD (eVar 3) (eVar 3)) (e2 mulD (eK (.int 7919)) (e2 powD (e2 ixD (eVar 0) (eK (.int 2))) (eK (.int 2))))) (eK (.int 5))) (eVar 2)) (gN 3)) (sRet (e2 modD (e2 divD (e2 modD (e2 powD (eVar 3) (eK (.int 3))) (eVar 2)) (eK (.int 13))) (eVar 1))))))))
def m_law_take : List D → M D := mkM 2 5 fb_law_take
def fb_law_kind : En → M Fl := (sSeq (sAsg (e2 addD (eK (.int 1)) (eCall (aCons (eVar 0) (aCons (e2 ixD (eLst (aCons (eCall (aCons (eVar 1) (aCons (eK (.int 12)) aNil)) (on2 min2D)) (aCons (eVar 1) aNil))) (eCall (aCons (eVar 0) (aCons (eK (.int 2)) aNil)) m_law_take)) aNil)) m_law_take)) (gN 2)) (sRet (eTup (aCons (eVar 2) (aCons (e2 ixD (eLst (aCons (eK (.int 0)) (aCons (e2 subD (eVar 2) (eK (.int 1))) (aCons (e2 divD (eVar 2) (eK (.int 2))) (aCons (eCall (aCons (eVar 0) (aCons (eVar 2) aNil)) m_law_take) aNil))))) (eCall (aCons (eVar 0) (aCons (eK (.int 4)) aNil)) m_law_take)) aNil)))))
def m_law_kind : List D → M D := mkM 2 3 fb_law_kind
def fb_law_menu : En → M Fl := (sSeq (sAsg eDic (gN 3)) (sSeq (sFor (iRangeD1 (aCons (e2 addD (eK (.int 1)) (eCall (aCons (eVar 0) (aCons (eVar 1) aNil)) m_law_take)) aNil)) (gN 4) (sSeq (sAsg (eCall (aCons (eVar 0) (aCons (eVar 2) aNil)) m_law_kind) (gN 5)) (sDput (eVar 3) (e2 ixD (eVar 5) (eK (.int 0))) (eVar 5)))) (sRet (eCall (aCons (eLc [6] (iSeqD (eCall (aCons (eVar 3) aNil) (on1 sortDicD))) (Tg.d (.nm 6)) tYesD (e2 dgetD (eVar 3) (eVar 6))) aNil) (on1 tupleD)))))
def m_law_menu : List D → M D := mkM 3 7 fb_law_menu
def fb_Browser___len__ : En → M Fl := (sRet (eCall (aCons (eSl (eFld "Browser" "states" (eVar 0)) (oSome (eK (.int 1))) oNone) aNil) (on1 lenD)))
def m_Browser___len__ : List D → M D := mkM 1 1 fb_Browser___len__
def fb_Browser_size : En → M Fl := (sRet (e2 ixD (e2 ixD (e2 ixD (eFld "Browser" "states" (eVar 0)) (eNeg (eK (.int 1)))) (eK (.int 0))) (eK (.int 0))))
def m_Browser_size : List D → M D := mkM 1 1 fb_Browser_size
def fb_law_in : En → M Fl := (sRet (eAnd (eCall (aCons (eVar 0) aNil) (on1 (isiD .int))) (eAnd (eNot (eCall (aCons (eVar 0) aNil) (on1 (isiD .bool)))) (eChain leD leD (eVar 1) (eVar 0) (eVar 2)))))
def m_law_in : List D → M D := mkM 3 3 fb_law_in
def fb_law_same (rec : List D → M D) : En → M Fl := (sSeq (sIf (bOr (bAnd (toT (eCall (aCons (eVar 0) aNil) (on1 (isiD .lst)))) (toT (eCall (aCons (eVar 1) aNil) (on1 (isiD .lst))))) (bAnd (toT (eCall (aCons (eVar 0) aNil) (on1 (isiD .tup)))) (toT (eCall (aCons (eVar 1) aNil) (on1 (isiD .tup)))))) (sRet (eAnd (e2 eqD (eCall (aCons (eVar 0) aNil) (on1 lenD)) (eCall (aCons (eVar 1) aNil) (on1 lenD))) (eCall (aCons (eLc [2, 3] (iZipD (eVar 0) (eVar 1)) (Tg.d (.tp [2, 3])) tYesD (eCall (aCons (eVar 2) (aCons (eVar 3) aNil)) rec)) aNil) (on1 allD)))) sNx) (sSeq (sIf (bOr (toT (eCall (aCons (eVar 0) aNil) (on1 (isiDs [.bool, .lst, .tup])))) (toT (eCall (aCons (eVar 1) aNil) (on1 (isiDs [.bool, .lst, .tup]))))) (sRet (eAnd (eCall (aCons (eVar 0) aNil) (on1 (isiD .bool))) (eAnd (eCall (aCons (eVar 1) aNil) (on1 (isiD .bool))) (e2 eqD (eVar 0) (eVar 1))))) sNx) (sSeq (sIf (bOr (toT (eCall (aCons (eVar 0) aNil) (on1 (isiD .int)))) (toT (eCall (aCons (eVar 1) aNil) (on1 (isiD .int))))) (sRet (eAnd (eCall (aCons (eVar 0) aNil) (on1 (isiD .int))) (eAnd (eCall (aCons (eVar 1) aNil) (on1 (isiD .int))) (e2 eqD (eVar 0) (eVar 1))))) sNx) (sSeq (sIf (bOr (toT (eCall (aCons (eVar 0) aNil) (on1 (isiD .str)))) (toT (eCall (aCons (eVar 1) aNil) (on1 (isiD .str))))) (sRet (eAnd (eCall (aCons (eVar 0) aNil) (on1 (isiD .str))) (eAnd (eCall (aCons (eVar 1) aNil) (on1 (isiD .str))) (e2 eqD (eVar 0) (eVar 1))))) sNx) (sRet (eAnd (e2 isD (eVar 0) (eK .non)) (e2 isD (eVar 1) (eK .non))))))))
def mr_law_same : Nat → List D → M D
  | 0 => fun _ => stuck
  | n + 1 => mkM 2 4 (fb_law_same (mr_law_same n))
abbrev m_law_same : List D → M D := mr_law_same 4
def fb_law_right : En → M Fl := (sSeq (sAsg (eVar 1) (gTupD 2 (gConsD (gN 5) (gConsD (gN 6) gNilD)))) (sSeq (sAsg (e2 mulD (eVar 6) (e2 ixD (eVar 5) (eK (.int 0)))) (gN 3)) (sSeq (sIf (bNot (toT (eCall (aCons (eLst (aCons (eProp "Browser" (eVar 0) m_Browser_size) (aCons (eProp "Browser" (eVar 0) m_Browser_page) (aCons (eProp "Browser" (eVar 0) m_Browser_anchor) (aCons (eCall (aCons (eVar 0) aNil) (on1 (lenO "Browser" m_Browser___len__))) aNil))))) (aCons (eLst (aCons (e2 ixD (eVar 5) (eK (.int 0))) (aCons (eVar 6) (aCons (e2 addD (eVar 3) (e2 ixD (eVar 5) (eK (.int 1)))) (aCons (eVar 2) aNil))))) aNil)) m_law_same))) (sRet (eK (.bl false))) sNx) (sSeq (sFor (iSeqD (eTup (aCons (eVar 3) (aCons (e2 subD (eVar 3) (eK (.int 1))) (aCons (e2 subD (e2 addD (eVar 3) (e2 ixD (eVar 5) (eK (.int 0)))) (eK (.int 1))) (aCons (e2 addD (eVar 3) (e2 ixD (eVar 5) (eK (.int 0)))) (aCons (eK .non) (aCons (eK (.bl true)) (aCons (eK (.str "0")) (aCons (eNeg (eK (.int 1))) aNil)))))))))) (gN 4) (sSeq (sAsg (eCall (aCons (eVar 4) (aCons (eVar 3) (aCons (e2 subD (e2 addD (eVar 3) (e2 ixD (eVar 5) (eK (.int 0)))) (eK (.int 1))) aNil))) m_law_in) (gN 7)) (sIf (bNot (toT (eCall (aCons (e2 (inO "Browser" m_Browser___contains__) (eVar 4) (eVar 0)) (aCons (eVar 7) aNil)) m_law_same))) (sRet (eK (.bl false))) sNx))) (sRet (eK (.bl true)))))))
def m_law_right : List D → M D := mkM 3 8 fb_law_right
def fb_law_change : En → M Fl := (sSeq (sAsg (e2 addD (e2 mulD (eVar 1) (e2 ixD (eVar 0) (eK (.int 0)))) (e2 ixD (eVar 0) (eK (.int 1)))) (gN 3)) (sRet (e2 divD (e2 subD (eVar 3) (e2 modD (eVar 3) (e2 ixD (eVar 2) (eK (.int 0))))) (e2 ixD (eVar 2) (eK (.int 0))))))
def m_law_change : List D → M D := mkM 3 4 fb_law_change
def fb_law_choose : En → M Fl := (sSeq (sIf (toT (e2 eqD (eVar 1) (eTup aNil))) (sRet (eMeth "Browser" "choose" (eVar 0) aNil m_Browser_choose)) sNx) (sSeq (sIf (toT (e2 eqD (eCall (aCons (eVar 1) aNil) (on1 lenD)) (eK (.int 1)))) (sRet (eMeth "Browser" "choose" (eVar 0) (aCons (e2 ixD (eVar 1) (eK (.int 0))) aNil) m_Browser_choose)) sNx) (sRet (eMeth "Browser" "choose" (eVar 0) (aCons (e2 ixD (eVar 1) (eK (.int 0))) (aCons (e2 ixD (eVar 1) (eK (.int 1))) aNil)) m_Browser_choose))))
def m_law_choose : List D → M D := mkM 2 2 fb_law_choose
def fb_law_step : En → M Fl := (sSeq (sPar3 6 7 8 (e2 ixD (eVar 3) (eK (.int 0))) (e2 ixD (eVar 3) (eK (.int 1))) (eCall (aCons (eVar 0) (aCons (eK (.int 8)) aNil)) m_law_take)) (sSeq (sIf (toT (e2 ltD (eVar 8) (eK (.int 4)))) (sSeq (sAsg (eLc [13] (iRangeD1 (aCons (eCall (aCons (eVar 0) (aCons (eK (.int 3)) aNil)) m_law_take) aNil)) (Tg.d (.nm 13)) tYesD (e2 ixD (eVar 2) (eCall (aCons (eVar 0) (aCons (eCall (aCons (eVar 2) aNil) (on1 lenD)) aNil)) m_law_take))) (gN 9)) (sSeq (sFor (iSeqD (eVar 9)) (gN 10) (sPar 6 7 (eVar 10) (eCall (aCons (eVar 6) (aCons (eVar 7) (aCons (eVar 10) aNil))) m_law_change))) (sSeq (sAsg (eOut 1 "_law_step" "_law_step.<locals>.<lambda>" ["InvalidPage", "NoSize", "NothingToUndo"] (eCall (aCons (eVar 1) (aCons (eCall (aCons (eLc [14] (iSeqD (eVar 9)) (Tg.d (.nm 14)) tYesD (e2 ixD (eVar 14) (eK (.int 0)))) aNil) (on1 tupleD)) aNil)) m_law_choose)) (gN 11)) (sRet (eTup (aCons (eCall (aCons (eVar 11) (aCons (eTup (aCons (eK (.str "value")) (aCons (eVar 7) aNil))) aNil)) m_law_same) (aCons (eLst (aCons (eTup (aCons (eVar 6) (aCons (eVar 7) aNil))) aNil)) aNil))))))) sNx) (sSeq (sIf (toT (e2 ltD (eVar 8) (eK (.int 6)))) (sSeq (sAsg (e2 subD (eCall (aCons (eVar 0) (aCons (eK (.int 30)) aNil)) m_law_take) (eK (.int 15))) (gN 12)) (sSeq (sAsg (eOut 1 "_law_step" "_law_step.<locals>.<lambda>" ["InvalidPage", "NoSize", "NothingToUndo"] (eMeth "Browser" "turn" (eVar 1) (aCons (eVar 12) aNil) m_Browser_turn)) (gN 11)) (sSeq (sIf (toT (e2 ltD (e2 addD (eVar 7) (eVar 12)) (eK (.int 0)))) (sRet (eTup (aCons (e2 eqD (eVar 11) (eTup (aCons (eK (.str "InvalidPage")) aNil))) (aCons (eLst aNil) aNil)))) sNx) (sRet (eTup (aCons (eCall (aCons (eVar 11) (aCons (eTup (aCons (eK (.str "value")) (aCons (e2 addD (eVar 7) (eVar 12)) aNil))) aNil)) m_law_same) (aCons (eLst (aCons (eTup (aCons (eVar 6) (aCons (e2 addD (eVar 7) (eVar 12)) aNil))) aNil)) aNil))))))) sNx) (sSeq (sIf (toT (e2 eqD (eVar 8) (eK (.int 6)))) (sSeq (sAsg (e2 ixD (eLst (aCons (eK .non) (aCons (eK (.bl true)) (aCons (e2 subD (e2 subD (eK (.int 0)) (eVar 7)) (eK (.int 1))) (aCons (e2 addD (e2 powD (eK (.int 10)) (eK (.int 15))) (eK (.int 1))) (aCons (eK (.str "1")) aNil)))))) (eCall (aCons (eVar 0) (aCons (eK (.int 5)) aNil)) m_law_take)) (gN 4)) (sRet (eTup (aCons (e2 eqD (eOut 1 "_law_step" "_law_step.<locals>.<lambda>" ["InvalidPage", "NoSize", "NothingToUndo"] (eMeth "Browser" "turn" (eVar 1) (aCons (eVar 4) aNil) m_Browser_turn)) (eTup (aCons (eK (.str "InvalidPage")) aNil))) (aCons (eLst aNil) aNil))))) sNx) (sSeq (sAsg (e2 ixD (eLst (aCons (eK .non) (aCons (eK (.bl true)) (aCons (eK (.int 0)) (aCons (eK (.int 1001)) (aCons (eK (.str "4")) (aCons (eNeg (eK (.int 1))) aNil))))))) (eCall (aCons (eVar 0) (aCons (eK (.int 6)) aNil)) m_law_take)) (gN 4)) (sSeq (sAsg (e2 eqD (eOut 1 "_law_step" "_law_step.<locals>.<lambda>" ["InvalidPage", "NoSize", "NothingToUndo"] (eMeth "Browser" "choose" (eVar 1) (aCons (eVar 4) aNil) m_Browser_choose)) (eTup (aCons (eK (.str "NoSize")) aNil))) (gN 5)) (sRet (eTup (aCons (eAnd (eVar 5) (e2 eqD (eOut 1 "_law_step" "_law_step.<locals>.<lambda>" ["InvalidPage", "NoSize", "NothingToUndo"] (eMeth "Browser" "choose" (eVar 1) (aCons (e2 ixD (e2 ixD (eVar 2) (eK (.int 0))) (eK (.int 0))) (aCons (eVar 4) aNil)) m_Browser_choose)) (eTup (aCons (eK (.str "NoSize")) aNil)))) (aCons (eLst aNil) aNil))))))))))
def m_law_step : List D → M D := mkM 4 15 fb_law_step
def bd1_law : En → M Fl := (sSeq (sIf (toT (e2 eqD (eCall (aCons (eVar 1) (aCons (eK (.int 5)) aNil)) m_law_take) (eK (.int 0)))) (sSeq (sAsg (eIf (toT (e2 gtD (eCall (aCons (eVar 9) aNil) (on1 lenD)) (eK (.int 1)))) (eTup (aCons (eK (.str "value")) (aCons (eK .non) aNil))) (eTup (aCons (eK (.str "NothingToUndo")) aNil))) (gN 10)) (sSeq (sAsg (eCall (aCons (eOut 0 "law" "law.<locals>.<lambda>" ["InvalidPage", "NoSize", "NothingToUndo"] (eMeth "Browser" "undo" (eVar 8) aNil m_Browser_undo)) (aCons (eVar 10) aNil)) m_law_same) (gN 11)) (sAsg (eSl (eVar 9) oNone (oSome (eCall (aCons (eK (.int 1)) (aCons (e2 subD (eCall (aCons (eVar 9) aNil) (on1 lenD)) (eK (.int 1))) aNil)) (on2 max2D)))) (gN 9)))) (sSeq (sAsg (eCall (aCons (eVar 1) (aCons (eVar 8) (aCons (eVar 6) (aCons (e2 ixD (eVar 9) (eNeg (eK (.int 1)))) aNil)))) m_law_step) (gTupD 2 (gConsD (gN 11) (gConsD (gN 12) gNilD)))) (sAsg (e2 addD (eVar 9) (eVar 12)) (gN 9)))) (sIf (bOr (bNot (toT (eVar 11))) (bNot (toT (eCall (aCons (eVar 8) (aCons (e2 ixD (eVar 9) (eNeg (eK (.int 1)))) (aCons (e2 subD (eCall (aCons (eVar 9) aNil) (on1 lenD)) (eK (.int 1))) aNil))) m_law_right)))) (sRet (eK (.bl false))) sNx))
def bd2_law : En → M Fl := (sSeq (sPar 6 7 (eCall (aCons (eVar 1) (aCons (eK (.int 4)) (aCons (eK (.int 60)) aNil))) m_law_menu) (eCall (aCons (eVar 1) (aCons (e2 powD (eK (.int 10)) (eK (.int 6))) aNil)) m_law_take)) (sSeq (sAsg (eTup (aCons (eMakeK "Browser" 1 1 (aCons (eVar 6) aNil) (aCons (eVar 7) aNil) m_Browser___init__) (aCons (eLst (aCons (eTup (aCons (e2 ixD (eVar 6) (eK (.int 0))) (aCons (e2 divD (eVar 7) (e2 ixD (e2 ixD (eVar 6) (eK (.int 0))) (eK (.int 0)))) aNil))) aNil)) aNil))) (gTupD 2 (gConsD (gN 8) (gConsD (gN 9) gNilD)))) (sSeq (sFor (iRangeD1 (aCons (eK (.int 40)) aNil)) (gN 3) bd1_law) (sSeq (sAsg (eMakeK "Browser" 1 1 (aCons (eVar 6) aNil) (aCons (e2 mulD (e2 ixD (e2 ixD (e2 ixD (eVar 9) (eNeg (eK (.int 1)))) (eK (.int 0))) (eK (.int 0))) (e2 ixD (e2 ixD (eVar 9) (eNeg (eK (.int 1)))) (eK (.int 1)))) aNil) m_Browser___init__) (gN 4)) (sSeq (sExp (eMeth "Browser" "choose" (eVar 4) (aCons (e2 ixD (e2 ixD (e2 ixD (eVar 9) (eNeg (eK (.int 1)))) (eK (.int 0))) (eK (.int 0))) aNil) m_Browser_choose)) (sSeq (sExp (eMeth "Browser" "turn" (eVar 4) (aCons (e2 subD (e2 ixD (e2 ixD (eVar 9) (eNeg (eK (.int 1)))) (eK (.int 1))) (eProp "Browser" (eVar 4) m_Browser_page)) aNil) m_Browser_turn)) (sSeq (sIf (bOr (bNot (toT (e2 (eqO "Browser" m_Browser___eq__) (eVar 4) (eVar 8)))) (bOr (toT (e2 (eqO "Browser" m_Browser___eq__) (eVar 8) (e2 ixD (eVar 9) (eNeg (eK (.int 1)))))) (toT (e2 (eqO "Browser" m_Browser___eq__) (eVar 8) (eMakeK "Browser" 1 1 (aCons (e2 addD (eVar 6) (eTup (aCons (eTup (aCons (eK (.int 61)) (aCons (eK (.int 0)) aNil))) aNil))) aNil) (aCons (eVar 7) aNil) m_Browser___init__))))) (sRet (eK (.bl false))) sNx) (sSeq (sAsg (e2 addD (eK (.int 2)) (eCall (aCons (eVar 1) (aCons (eK (.int 50)) aNil)) m_law_take)) (gN 5)) (sIf (bNot (toT (e2 (eqO "Browser" m_Browser___eq__) (eCMeth "Browser" (aCons (eVar 5) (aCons (eK (.int 1)) aNil)) m_Browser_middle) (eCall (aCons (eTup (aCons (eTup (aCons (eK (.int 1)) (aCons (eK (.int 0)) aNil))) (aCons (eTup (aCons (eVar 5) (aCons (e2 divD (eVar 5) (eK (.int 2))) aNil))) aNil))) aNil) (dfl [.int 0] (mkIns "Browser" m_Browser___init__)))))) (sRet (eK (.bl false))) sNx)))))))))
def fb_law : En → M Fl := (sSeq (sFor (iSeqD (eCall (aCons (eVar 0) (aCons (eK (.int 5)) aNil)) m_law_bags)) (gN 1) bd2_law) (sSeq (sAsg (eCMeth "Browser" (aCons (eK (.int 10)) (aCons (eK (.int 4)) aNil)) m_Browser_middle) (gN 2)) (sRet (eAnd (e2 eqD (eMeth "Browser" "choose" (eVar 2) (aCons (eK (.int 10)) (aCons (eK (.int 4)) aNil)) m_Browser_choose) (eK (.int 1))) (eAnd (e2 eqD (eProp "Browser" (eVar 2) m_Browser_anchor) (eK (.int 6))) (eAnd (e2 (inO "Browser" m_Browser___contains__) (eK (.int 7)) (eVar 2)) (e2 eqD (eK (.int 1000000000000000)) (e2 powD (eK (.int 10)) (eK (.int 15))))))))))
def m_law : List D → M D := mkM 1 13 fb_law
end Law
end DL
namespace DL
namespace Law
open PySem
local macro_rules | `(tactic| walk_at "dl") => `(tactic| simp (disch := omega) only [r_ret, r_stuck, r_bnd, r_km, r_br, r_seq, r_thnx, r_thrt, r_asg, r_kasg, r_knx, r_sret, r_krt, r_sretN, r_sif, r_kift, r_kiff, r_sexp, r_kex, r_snx, r_sstuck, r_par, r_kpa, r_kpb, r_for, r_kfor, r_fbody, r_while, r_e2, r_k2a, r_var, r_slot, r_k, r_call, r_anil, r_acons, r_kca, r_kcb, r_tup, r_lst, r_loc, r_and, r_kan2t, r_kan2f, r_or, r_kor2t, r_kor2f, r_not, r_kno, r_eif, r_neg, r_chain, r_kc1, r_kc2, r_kc4t, r_kc4f, r_toT, r_band, r_kbat, r_kbaf, r_bor, r_kbot, r_kbof, r_bnot, r_kbn, r_gn, r_gsub, r_ks1, r_ks2, r_ks3, r_gcons, r_kg, r_gnil, r_iseq, r_irange1, r_irange, r_izip, r_ienum, r_ken, r_sl, r_ksa, r_ksb, r_ksc, r_onone, r_osome, r_ko, r_app, r_ka1, r_ka2, r_lc, r_lcK, r_klcK, r_klc, r_klt, r_mk0, r_mk1, r_mk2, r_mk3, r_mk4, r_mk5, r_onx, r_ort, r_frz, r_frzAt, r_kf1, r_kf2, r_lcB, r_kl1, r_kl2t, r_kl2f, r_kl3, r_tYes, r_tgn, r_tg2, r_tg3, r_chT, r_kch, r_chC, r_kch1, r_kch2t, r_kch2f, r_chL, r_kch3, w_nil, w_cons, r_mkloc, r_mkloc0, r_mkloc1, sl_fz, sl_lst, sl_tup, list_lst, p_neg, p_gt2, p_gt3, List.getElem?_cons_zero, List.getElem?_cons_succ, List.set_cons_zero, List.set_cons_succ, p_add_int, p_sub_int, p_mul_int, p_div_int, p_mod_int, p_pow_int, p_lt_int, p_le_int, p_gt_int, p_ge_int, p_eq_int, p_in_il, p_notin_il, n_non, b_tf, b_ft, n_tup, n_lst, n_int, n_bl, p_eq_ints, p_ne_ints, p_eq_nil, p_ne_nil, p_eq_t2, p_ne_t2, Bool.and_true, Bool.true_and, Bool.and_false, Bool.false_and, p_ne_int, p_eq_bl, p_ne_bl, p_is_bl, p_isnt_bl, p_is_non, p_isnt_non, p_ix_t0, p_ix_t1, p_ix_t2, p_asB_bl, p_asI_int, p_tup0, p_tup1, p_tup2, p_tup3, p_tup4, p_tup5, p_tup6, p_lst6, p_lst0, p_lst1, p_lst2, p_lst3, p_lst4, p_lst5, p_on1_, p_on2_, p_min_int, p_max_int, p_abs_int, p_len_tup0, p_len_tup1, p_len_tup2, p_len_tup3, p_len_tup4, p_len_tup5, p_len_lst0, p_len_lst1, p_len_lst2, p_len_lst3, p_len_lst4, p_len_lst5, p_ix_t3, p_ix_l0, Int.reduceBEq, Int.reduceBNe, Int.reduceLT, Int.reduceLE, beq_self_eq_true, Int.reduceDiv, Int.reduceMod, p_items_lst, p_items_tup, p_isi_int, p_isi_bl, p_isi_tup, p_isi_lst, p_isi_non, p_isis_int, p_isis_bl, p_isis_non, List.replicate_succ, List.replicate_zero, Nat.reduceSub, Nat.reduceAdd, br_t, br_f, Bool.not_true, Bool.not_false, isi, List.any_cons, List.any_nil, Bool.or_true, Bool.true_or, Bool.or_false, Bool.false_or, decide_true, decide_false, and_true, true_and, Int.reduceToNat, Int.reducePow, Int.reduceAdd, Int.reduceSub, Int.reduceMul, Int.reduceNeg, r_edic, r_dput, r_kd0, r_kd1, r_kd2, r_kd3, r_ienumT, r_kent, p_tupL, r_lc2, r_klc2, r_ob2, r_ko1, r_gseq, r_thgnx, r_thgrt, r_gpl, r_kpl, r_gnx, r_kyd, r_gfor, r_kgf, r_listG, r_klg, r_par3, r_kp3a, r_kp3b, r_kp3c, r_flOutG, p_ix_l1, p_ix_l2, p_ix_l3, r_disp1, r_eNgt, r_sNput, r_iNd])
theorem take_ok {s : Sto} {n : Nat} {t many : Int} (h : Bag s n t) (h0 : 0 < many ∧ many < 1073741824) (ht : t < 4611686018427387904) :
    runs (m_law_take [.loc n, .int many]) s fun d s' => ∃ v, d = .int v ∧ 0 ≤ v ∧ v < many ∧ Bag s' n (t + 1) ∧ Chg n s s' := by
  obtain ⟨a, b, c, e, c0, ct⟩ := h.ex
  have hn : n < s.length := (List.getElem?_eq_some_iff.mp e).1
  unfold m_law_take fb_law_take
  (try walk_at "dl")
  rw [r_bag0 e]
  (try walk_at "dl")
  by_cases ha : 0 < a
  · rw [decide_eq_true ha]
    (try walk_at "dl")
    rw [r_bag0 e]
    (try walk_at "dl")
    rw [r_bag0 e]
    (try walk_at "dl")
    rw [r_put0 e]
    (try walk_at "dl")
    refine ⟨a % many, rfl, Int.emod_nonneg _ (by omega), Int.emod_lt_of_pos _ h0.1, ⟨_, _, _, List.getElem?_set_self hn, c0, by omega⟩, Chg.set _ _ _⟩
  · rw [decide_eq_false ha]
    (try walk_at "dl")
    rw [r_bag2 e]
    (try walk_at "dl")
    rw [r_put2 e]
    have e' := List.getElem?_set_self (a := some (Cell.lst [D.int a, D.int b, D.int (c + 1)])) hn
    have hp : (0 : Int) < 2305843009213693951 := by decide
    (try walk_at "dl")
    rw [r_bag1 e']
    (try walk_at "dl")
    rw [r_bag2 e']
    (try walk_at "dl")
    generalize hm : (b + 1000003 * (c + 1)) % 2305843009213693951 = m
    have m0 : 0 ≤ m := by rw [← hm]; exact Int.emod_nonneg _ (by decide)
    have m1 : m < 2305843009213693951 := by rw [← hm]; exact Int.emod_lt_of_pos _ hp
    (try walk_at "dl")
    rw [r_bag2 e']
    (try walk_at "dl")
    generalize hq : (m * m + 7919 * (c + 1) ^ 2 + 5) % 2305843009213693951 = q
    have q0 : 0 ≤ q := by rw [← hq]; exact Int.emod_nonneg _ (by decide)
    have q1 : q < 2305843009213693951 := by rw [← hq]; exact Int.emod_lt_of_pos _ hp
    (try walk_at "dl")
    refine ⟨_, rfl, Int.emod_nonneg _ (by omega), Int.emod_lt_of_pos _ h0.1, ⟨_, _, _, e', by omega, by omega⟩, Chg.set _ _ _⟩
theorem well_ok {s : Sto} {c t : Int} : runs (m_law_well [.int c, .int t]) s fun d s' => ∃ a b, d = .loc s.length ∧ s' = s ++ [some (.lst [.int a, .int b, .int t])] := by
  unfold m_law_well fb_law_well
  (try walk_at "dl")
  by_cases h : 1000000000000000000 ≤ c
  · rw [decide_eq_true h]
    (try walk_at "dl")
    exact ⟨_, _, rfl⟩
  · rw [decide_eq_false h]
    (try walk_at "dl")
    exact ⟨_, _, rfl⟩
theorem bagsO_ok {ns : List Int} (hn : ns.length ≤ 63) (m : Nat) (s0 : Sto) : runs (m_law_bags [scriptD ns, .int (m : Nat)]) s0 fun d s' => ∃ k, d = .lst ((List.range k).map fun j => D.loc (s0.length + j)) ∧ (∀ j, j < k → Bag s' (s0.length + j) 62000) ∧ ∀ m, m < s0.length → s'[m]? = s0[m]? := by
  unfold m_law_bags fb_law_bags scriptD
  (try walk_at "dl")
  rw [cutD_pre]
  have hl : (List.take m (List.map D.int ns) ++ [D.int 0]).length ≤ 64 := by
    rw [List.length_append, List.length_take, List.length_map, List.length_singleton]; omega
  rw [p_add_lst (sz_small (by omega))]
  (try walk_at "dl")
  rw [enumDs_len]
  refine ⟨sz_small (by omega), ?_⟩
  have hint : ∀ d ∈ (List.take m (List.map D.int ns) ++ [D.int 0]), ∃ i, d = D.int i := by
    intro d hd
    rcases List.mem_append.mp hd with hd | hd
    · obtain ⟨i, _, rfl⟩ := List.mem_map.mp (List.mem_of_mem_take hd)
      exact ⟨i, rfl⟩
    · exact ⟨0, by simpa using hd⟩
  generalize (List.take m (List.map D.int ns) ++ [D.int 0]) = xs at hl hint
  refine runs_lc (fun i acc s => acc = (List.range i).map (fun j => D.loc (s0.length + j)) ∧ s.length = s0.length + i ∧ (∀ j, j < i → Bag s (s0.length + j) 62000) ∧ ∀ m, m < s0.length → s[m]? = s0[m]?) ⟨rfl, rfl, fun j h => absurd h (Nat.not_lt_zero _), fun _ _ => rfl⟩ (fun i d acc s hi ⟨h1, h2, h3, h4⟩ => ?_) (fun acc s h => ?_)
  · obtain ⟨x, hx, rfl⟩ := enumDs_at hi
    obtain ⟨c, rfl⟩ := hint x (List.mem_of_getElem? hx)
    have hi64 : i < 64 := by
      have := (List.getElem?_eq_some_iff.mp hx).1
      omega
    (try walk_at "dl")
    refine runs_mono well_ok ?_
    rintro d s' ⟨a, b, rfl, rfl⟩
    (try walk_at "dl")
    refine ⟨?_, by rw [List.length_append, h2]; rfl, fun j hj => ?_, fun m hm => ?_⟩
    · rw [h1, List.range_succ, List.map_append, h2]; rfl
    · by_cases e : j = i
      · subst e
        refine ⟨a, b, 977 * (j : Int), ?_, by omega, by omega⟩
        rw [← h2, List.getElem?_append_right (Nat.le_refl _), Nat.sub_self]; rfl
      · obtain ⟨a', b', c', e', h4, h5⟩ := (h3 j (by omega)).ex
        exact ⟨a', b', c', by rw [List.getElem?_append_left (by omega)]; exact e', h4, h5⟩
    · rw [List.getElem?_append_left (by omega)]
      exact h4 m hm
  · (try walk_at "dl")
    exact ⟨_, by rw [h.1], h.2.2.1, h.2.2.2⟩
theorem pick4 {a b c d : Int} {v : Int} (h0 : 0 ≤ v) (h : v < 4) : ∃ x : Int, ixD (.lst [.int a, .int b, .int c, .int d]) (.int v) = ret (.int x) ∧ (x = a ∨ x = b ∨ x = c ∨ x = d) := by
  have : v = 0 ∨ v = 1 ∨ v = 2 ∨ v = 3 := by omega
  rcases this with rfl | rfl | rfl | rfl
  · exact ⟨a, p_ix_nat (n := 0) rfl, .inl rfl⟩
  · exact ⟨b, p_ix_nat (n := 1) rfl, .inr (.inl rfl)⟩
  · exact ⟨c, p_ix_nat (n := 2) rfl, .inr (.inr (.inl rfl))⟩
  · exact ⟨d, p_ix_nat (n := 3) rfl, .inr (.inr (.inr rfl))⟩
theorem pick2 {a b : Int} {v : Int} (h0 : 0 ≤ v) (h : v < 2) : ∃ x : Int, ixD (.lst [.int a, .int b]) (.int v) = ret (.int x) ∧ (x = a ∨ x = b) := by
  have : v = 0 ∨ v = 1 := by omega
  rcases this with rfl | rfl
  · exact ⟨a, p_ix_nat (n := 0) rfl, .inl rfl⟩
  · exact ⟨b, p_ix_nat (n := 1) rfl, .inr rfl⟩
/-- a kind as data -/
abbrev kd (b B : Int) : D := .tup [.int b, .int B]
structure Kd (most b B : Int) : Prop where
  b0 : 1 ≤ b
  b1 : b ≤ most
  p0 : 0 ≤ B
  p1 : B < b
theorem Kd.mono {m m2 b B : Int} (k : Kd m b B) (h : m ≤ m2) : Kd m2 b B := ⟨k.b0, Int.le_trans k.b1 h, k.p0, k.p1⟩
theorem Kd.big {b B : Int} (k : Kd 1000 b B) : 0 < b ∧ b < 1073741824 := by
  have h1 := k.b0; have h2 := k.b1; omega
theorem kind_ok {s : Sto} {n : Nat} {t most : Int} (h : Bag s n t) (h0 : 1 ≤ most ∧ most ≤ 1000) (ht : t < 4611686018427000000) :
    runs (m_law_kind [.loc n, .int most]) s fun d s' => ∃ b B, d = kd b B ∧ Kd most b B ∧ Bag s' n (t + 4) ∧ Chg n s s' := by
  unfold m_law_kind fb_law_kind
  (try walk_at "dl")
  refine runs_mono (take_ok h (by decide) (by omega)) ?_
  rintro d s1 ⟨v, rfl, v0, v1, hb1, hc1⟩
  (try walk_at "dl")
  obtain ⟨x, hx, hx'⟩ := pick2 (a := if 12 < most then 12 else most) (b := most) v0 v1
  refine runs_of_eq hx ?_
  (try walk_at "dl")
  have hxm : 1 ≤ x ∧ x ≤ most := by
    rcases hx' with rfl | rfl
    · split <;> omega
    · omega
  refine runs_mono (take_ok hb1 (by omega) (by omega)) ?_
  rintro d s2 ⟨u, rfl, u0, u1, hb2, hc2⟩
  (try walk_at "dl")
  refine runs_mono (take_ok hb2 (by omega) (by omega)) ?_
  rintro d s3 ⟨y, rfl, y0, y1, hb3, hc3⟩
  (try walk_at "dl")
  refine runs_mono (take_ok hb3 (by decide) (by omega)) ?_
  rintro d s4 ⟨z, rfl, z0, z1, hb4, hc4⟩
  (try walk_at "dl")
  obtain ⟨p, hp, hp'⟩ := pick4 (a := 0) (b := 1 + u - 1) (c := (1 + u) / 2) (d := y) z0 z1
  refine runs_of_eq hp ?_
  (try walk_at "dl")
  (try walk_at "dl")
  refine ⟨1 + u, p, rfl, ⟨by omega, by omega, by omega, by omega⟩, hb4.mono (by omega), ((hc1.trans hc2).trans hc3).trans hc4⟩
/-! ### kinds as pairs -/
abbrev Kdt := Int × Int
def kdD (k : Kdt) : D := kd k.1 k.2
theorem zipDs_kd : ∀ xs ys : List Kdt, zipDs (xs.map kdD) (ys.map kdD) = (xs.zip ys).map fun q => D.tup [kdD q.1, kdD q.2]
  | [], _ => rfl
  | _ :: _, [] => rfl
  | x :: xs, y :: ys => by
    have := zipDs_kd xs ys
    unfold zipDs at this ⊢
    rw [List.map_cons, List.map_cons, List.zipWith_cons_cons, this]; rfl
/-! ### menus -/
structure Menu (many : Nat) (most : Int) (ks : List Kdt) : Prop where
  ne : ks ≠ []
  len : ks.length ≤ many
  kd : ∀ k ∈ ks, Kd most k.1 k.2
  asc : ks.Pairwise fun a b => a.1 < b.1
def mPut (ps : List Kdt) (k : Kdt) : List Kdt := if (ps.any fun p => decide (p.1 = k.1)) = true then ps.map (fun p => if p.1 = k.1 then k else p) else ps ++ [k]
def mKv (ps : List Kdt) : List (L2.Key × D) := ps.map fun p => (.inl p.1, kdD p)
theorem mKv_put (ps : List Kdt) (k : Kdt) : putD (mKv ps) (.inl k.1) (kdD k) = mKv (mPut ps k) := by
  unfold putD mPut mKv
  rw [List.any_map]
  have e : ((fun kv : L2.Key × D => decide (kv.1 = Sum.inl k.1)) ∘ fun p : Kdt => ((Sum.inl p.1 : L2.Key), kdD p)) = fun p : Kdt => decide (p.1 = k.1) := by
    funext p
    exact decide_eq_decide.mpr ⟨fun h => Sum.inl.inj h, fun h => congrArg Sum.inl h⟩
  rw [e]
  split
  · rw [List.map_map, List.map_map]
    refine List.map_congr_left fun p _ => ?_
    show (if (Sum.inl p.1 : L2.Key) = Sum.inl k.1 then ((Sum.inl p.1 : L2.Key), kdD k) else ((Sum.inl p.1 : L2.Key), kdD p)) = _
    by_cases h : p.1 = k.1
    · rw [if_pos (congrArg Sum.inl h)]
      show _ = (fun p : Kdt => ((Sum.inl p.1 : L2.Key), kdD p)) (if p.1 = k.1 then k else p)
      rw [if_pos h, h]
    · rw [if_neg (fun z => h (Sum.inl.inj z))]
      show _ = (fun p : Kdt => ((Sum.inl p.1 : L2.Key), kdD p)) (if p.1 = k.1 then k else p)
      rw [if_neg h]
  · rw [List.map_append]; rfl
theorem mKv_ints : ∀ ps : List Kdt, kInts (mKv ps) = some (ps.map (·.1))
  | [] => rfl
  | p :: ps => by
    show (match kInts (mKv ps) with | some ns => some (p.1 :: ns) | none => none) = _
    rw [mKv_ints ps]; rfl
theorem mKv_val : ∀ {ps : List Kdt} {k : Kdt}, (ps.map (·.1)).Nodup → k ∈ ps → valD (mKv ps) (.inl k.1) = some (kdD k)
  | [], _, _, h => by cases h
  | p :: ps, k, hn, h => by
    rw [List.map_cons, List.nodup_cons] at hn
    show ((((Sum.inl p.1 : L2.Key), kdD p) :: mKv ps).find? _).map _ = _
    rw [List.find?_cons]
    rcases List.mem_cons.mp h with rfl | h
    · rw [decide_eq_true rfl]; rfl
    · have hne : p.1 ≠ k.1 := fun e => hn.1 (by rw [e]; exact List.mem_map.mpr ⟨k, h, rfl⟩)
      rw [decide_eq_false (fun z => hne (Sum.inl.inj z))]
      exact mKv_val hn.2 h
theorem mPut_keys (ps : List Kdt) (k : Kdt) : (mPut ps k).map (·.1) = if (ps.any fun p => decide (p.1 = k.1)) = true then ps.map (·.1) else ps.map (·.1) ++ [k.1] := by
  unfold mPut
  split
  · rw [List.map_map]
    refine List.map_congr_left fun p _ => ?_
    show (if p.1 = k.1 then k else p).1 = p.1
    split
    · rename_i h; exact h.symm
    · rfl
  · rw [List.map_append]; rfl
theorem mPut_nodup {ps : List Kdt} {k : Kdt} (h : (ps.map (·.1)).Nodup) : ((mPut ps k).map (·.1)).Nodup := by
  rw [mPut_keys]
  split
  · exact h
  · rename_i hn
    rw [List.nodup_append]
    refine ⟨h, by simp, fun a ha b hb => ?_⟩
    have : b = k.1 := by simpa using hb
    subst this
    rintro rfl
    obtain ⟨p, hp, e⟩ := List.mem_map.mp ha
    exact hn (List.any_eq_true.mpr ⟨p, hp, decide_eq_true e⟩)
theorem mPut_len (ps : List Kdt) (k : Kdt) : (mPut ps k).length ≤ ps.length + 1 ∧ 0 < (mPut ps k).length := by
  unfold mPut
  split
  · rename_i h
    obtain ⟨p, hp, _⟩ := List.any_eq_true.mp h
    rw [List.length_map]
    have := List.length_pos_of_mem hp
    omega
  · rw [List.length_append, List.length_singleton]; omega
theorem mPut_mem {ps : List Kdt} {k : Kdt} {P : Kdt → Prop} (h : ∀ p ∈ ps, P p) (hk : P k) : ∀ p ∈ mPut ps k, P p := by
  unfold mPut
  intro p hp
  split at hp
  · obtain ⟨q, hq, rfl⟩ := List.mem_map.mp hp
    split
    · exact hk
    · exact h q hq
  · rcases List.mem_append.mp hp with hp | hp
    · exact h p hp
    · have : p = k := by simpa using hp
      rw [this]; exact hk
/-- a dict's kinds by their sizes -/
theorem menu_of {ps : List Kdt} {many : Nat} {most : Int} (hn : (ps.map (·.1)).Nodup) (h0 : 0 < ps.length) (hl : ps.length ≤ many) (hk : ∀ p ∈ ps, Kd most p.1 p.2) :
    ∃ ks, Menu many most ks ∧ (∀ k ∈ ks, k ∈ ps) ∧ isort (ps.map (·.1)) = ks.map (·.1) := by
  have hs : ∀ b ∈ isort (ps.map (·.1)), ∃ k ∈ ps, k.1 = b := fun b hb => by
    have := (isort_perm _).mem_iff.mp hb
    obtain ⟨k, hk, e⟩ := List.mem_map.mp this
    exact ⟨k, hk, e⟩
  have hnd : (isort (ps.map (·.1))).Nodup := (isort_perm _).nodup_iff.mpr hn
  have hle := isort_pair (ps.map (·.1))
  have hlen : (isort (ps.map (·.1))).length = ps.length := by rw [(isort_perm _).length_eq, List.length_map]
  have hlt : (isort (ps.map (·.1))).Pairwise (· < ·) := List.Pairwise.imp (fun ⟨a, b⟩ => by have : _ ≠ _ := b; omega) (List.Pairwise.and hle hnd)
  generalize isort (ps.map (·.1)) = l at hs hlen hlt
  have key : ∀ l : List Int, (∀ b ∈ l, ∃ k ∈ ps, k.1 = b) → ∃ ks : List Kdt, (∀ k ∈ ks, k ∈ ps) ∧ ks.map (·.1) = l := fun l => by
    induction l with
    | nil => exact fun _ => ⟨[], fun _ h => (by cases h), rfl⟩
    | cons b l ih =>
      intro h
      obtain ⟨ks, h1, h2⟩ := ih fun c hc => h c (List.mem_cons_of_mem _ hc)
      obtain ⟨k, hk, e⟩ := h b List.mem_cons_self
      refine ⟨k :: ks, fun x hx => ?_, by rw [List.map_cons, e, h2]⟩
      rcases List.mem_cons.mp hx with rfl | hx
      · exact hk
      · exact h1 x hx
  obtain ⟨ks, h1, h2⟩ := key l hs
  have h3 : ks.length = ps.length := by rw [← hlen, ← h2, List.length_map]
  refine ⟨ks, ⟨?_, by omega, fun k hk' => hk k (h1 k hk'), ?_⟩, h1, h2.symm⟩
  · rintro rfl
    rw [List.length_nil] at h3; omega
  · rw [← h2, List.pairwise_map] at hlt
    exact hlt
theorem menu_ok {s : Sto} {n : Nat} {t most : Int} {many : Nat} (h : Bag s n t) (hm : 0 < many ∧ many ≤ 20) (h0 : 1 ≤ most ∧ most ≤ 1000) (ht : t < 4611686018420000000) :
    runs (m_law_menu [.loc n, .int (many : Nat), .int most]) s fun d s' => ∃ ks, d = .tup (ks.map kdD) ∧ Menu many most ks ∧ Bag s' n (t + 100) ∧ Chg2 n s s' := by
  unfold m_law_menu fb_law_menu
  (try walk_at "dl")
  have hb0 : Bag (s ++ [some (.dic [])]) n t := h.keep (n := s.length) ⟨by rw [List.length_append]; omega, fun m _ hl => List.getElem?_append_left hl⟩ (Nat.ne_of_lt h.lt)
  have hns := h.lt
  refine runs_mono (take_ok hb0 (by omega) (by omega)) ?_
  rintro _ s1 ⟨v, rfl, v0, v1, hb1, hc1⟩
  (try walk_at "dl")
  rw [p_range1_int (smI_of (by omega))]
  (try walk_at "dl")
  have hcell : s1[s.length]? = some (some (.dic (mKv []))) := (hc1.at_ _ (by omega)).trans at_new
  have hlen1 : s1.length = s.length + 1 := by rw [hc1.len, List.length_append]; rfl
  have hc01 : Chg2 n s s1 := ⟨by omega, fun m hm hl => (hc1.at_ m hm).trans (List.getElem?_append_left hl)⟩
  refine runs_for (fun i ρ s' => ∃ (ps : List Kdt) (x4 x5 : Option D), ρ = [some (.loc n), some (.int (many : Nat)), some (.int most), some (.loc s.length), x4, x5, none] ∧ s'[s.length]? = some (some (.dic (mKv ps))) ∧ (ps.map (·.1)).Nodup ∧ ps.length ≤ i ∧ (0 < i → 0 < ps.length) ∧
    (∀ p ∈ ps, Kd most p.1 p.2) ∧ Bag s' n (t + 1 + 4 * (i : Int)) ∧ Chg2 n s s') ⟨[], none, none, rfl, hcell, List.nodup_nil, Nat.le_refl _, fun h => absurd h (Nat.lt_irrefl _), fun p hp => (by cases hp), hb1.mono (by omega), hc01⟩ ?_ ?_
  · rintro i d ρ s2 hi ⟨ps, x4, x5, rfl, hcl, hnd, hl, _, hk, hb2, hc2⟩
    have hi2 : i < (1 + v).toNat := by
      have := (List.getElem?_eq_some_iff.mp hi).1
      rw [rgD_len] at this; exact this
    (try walk_at "dl")
    refine runs_mono (kind_ok hb2 h0 (by omega)) ?_
    rintro _ s3 ⟨b, B, rfl, kb, hb3, hc3⟩
    (try walk_at "dl")
    have hcl3 : s3[s.length]? = some (some (.dic (mKv ps))) := (hc3.at_ _ (by omega)).trans hcl
    rw [r_dputD hcl3 (by unfold mKv; rw [List.length_map]; omega)]
    (try walk_at "dl")
    have hlt3 := lt_of_at hcl3
    refine ⟨_, rfl, mPut ps (b, B), _, _, rfl, ?_, mPut_nodup hnd, by have := (mPut_len ps (b, B)).1; omega, fun _ => (mPut_len ps (b, B)).2, mPut_mem hk kb, ?_, ?_⟩
    · rw [List.getElem?_set_self hlt3, show kd b B = kdD (b, B) from rfl, show (Sum.inl b : L2.Key) = .inl (b, B).1 from rfl, mKv_put]
    · exact (hb3.keep (n := s.length) (Chg.set _ _ _).two (by omega)).mono (by rw [Int.natCast_add]; omega)
    · exact (hc2.trans hc3.two).setNew (Nat.le_refl _)
  · rintro ρ s2 ⟨ps, x4, x5, rfl, hcl, hnd, hl, hpos, hk, hb2, hc2⟩
    rw [rgD_len] at hl hpos hb2
    have hv : (1 + v).toNat ≤ many := by omega
    obtain ⟨ks, hM, hmem, hks⟩ := menu_of hnd (hpos (by omega)) (Nat.le_trans hl hv) hk
    (try walk_at "dl")
    rw [r_sortDic hcl (mKv_ints ps) (by rw [List.length_map]; omega)]
    (try walk_at "dl")
    rw [hks]
    have hMl := hM.len
    refine ⟨sz_small (by rw [List.length_map, List.length_map]; omega), ?_⟩
    rw [List.map_map]
    refine runs_mono (Q := fun ys s' => ys = ks.map kdD ∧ s' = s2) ?_ ?_
    · refine runs_lc (fun i acc s' => acc = (ks.take i).map kdD ∧ s' = s2) ⟨rfl, rfl⟩ ?_ ?_
      · rintro i d acc s' hi ⟨rfl, rfl⟩
        rw [List.getElem?_map] at hi
        cases q : ks[i]? with
        | none => rw [q] at hi; cases hi
        | some k =>
          rw [q] at hi
          cases hi
          show runs (lcB [6] _ _ _ _ (D.int k.1)) _ _
          (try walk_at "dl")
          rw [r_dgetD hcl (mKv_val hnd (hmem k (List.mem_of_getElem? q)))]
          (try walk_at "dl")
          rw [List.take_succ, q, List.map_append]; rfl
      · rintro acc s' ⟨rfl, rfl⟩
        rw [List.length_map, List.take_length]
        exact ⟨rfl, rfl⟩
    · rintro ys s' ⟨rfl, rfl⟩
      (try walk_at "dl")
      rw [show tupleD (.lst (ks.map kdD)) = ret (.tup (ks.map kdD)) from rfl]
      (try walk_at "dl")
      exact ⟨ks, rfl, hM, hb2.mono (by omega), hc2⟩
theorem in_range_eq {x lo hi : Int} (h : lo ≤ x ∧ x ≤ hi) : m_in_range [.int x, .int lo, .int hi] = ret (.bl true) := by
  refine eq_of_runs fun s => ?_
  unfold m_in_range fb_in_range
  (try walk_at "dl")
  rw [decide_eq_true h.1]
  (try walk_at "dl")
  rw [decide_eq_true h.2]
  (try walk_at "dl")
section
variable {b B a A p : Int} {most most' : Int}
theorem is_kind_eq (k : Kd 1000 b B) : m_is_kind [kd b B] = ret (.bl true) := by
  obtain ⟨h1, h2, h3, h4⟩ := k
  refine eq_of_runs fun s => ?_
  unfold m_is_kind fb_is_kind
  (try walk_at "dl")
  rw [in_range_eq ⟨h1, h2⟩]
  (try walk_at "dl")
  rw [in_range_eq ⟨h3, by omega⟩]
  (try walk_at "dl")
end
/-! ### menus that pass the check -/
section
variable {ks : List Kdt} {many : Nat} {most : Int}
theorem Menu.mono {m2 : Nat} {t2 : Int} (h : Menu many most ks) (h1 : many ≤ m2) (h2 : most ≤ t2) : Menu m2 t2 ks := ⟨h.ne, Nat.le_trans h.len h1, fun k hk => (h.kd k hk).mono h2, h.asc⟩
theorem asc_zip (h : ks.Pairwise fun a b => a.1 < b.1) : ∀ q ∈ ks.zip (ks.drop 1), q.1.1 < q.2.1 := by
  intro q hq
  obtain ⟨i, hi⟩ := List.getElem?_of_mem hq
  obtain ⟨h1, h2⟩ := List.getElem?_zip_eq_some.mp hi
  rw [List.getElem?_drop] at h2
  obtain ⟨l1, e1⟩ := List.getElem?_eq_some_iff.mp h1
  obtain ⟨l2, e2⟩ := List.getElem?_eq_some_iff.mp h2
  rw [← e1, ← e2]
  exact (List.pairwise_iff_getElem.mp h) i (1 + i) l1 l2 (by omega)
theorem check_menu_eq (h : Menu 6 1000 ks) : m_check_menu [.tup (ks.map kdD)] = ret .non := by
  have hl : 1 ≤ ks.length := List.length_pos_iff.mpr h.ne
  have hl6 := h.len
  have a1 : (1 : Int) ≤ ((ks.map kdD).length : Nat) := by rw [List.length_map]; omega
  have a2 : (((ks.map kdD).length : Nat) : Int) ≤ 6 := by rw [List.length_map]; omega
  refine eq_of_runs fun s => ?_
  unfold m_check_menu fb_check_menu
  (try walk_at "dl")
  have e : m_is_menu [.tup (ks.map kdD)] = ret (.bl true) := by
    refine eq_of_runs fun s => ?_
    unfold m_is_menu fb_is_menu
    (try walk_at "dl")
    rw [p_len_tup]
    (try walk_at "dl")
    rw [decide_eq_true a1]
    (try walk_at "dl")
    rw [decide_eq_true a2]
    (try walk_at "dl")
    refine ⟨sz_small (by rw [List.length_map]; omega), ?_⟩
    rw [lc_mapG (f := kdD) (g := fun _ => .bl true) (fun k hk => by
      refine eq_of_runs fun s => ?_
      (try walk_at "dl")
      rw [show kdD k = kd k.1 k.2 from rfl, is_kind_eq (h.kd k hk)]
      (try walk_at "dl"))]
    (try walk_at "dl")
    rw [List.map_const', allD_tt]
    (try walk_at "dl")
    rw [show (some 1 : Option Int) = some ((1 : Nat) : Int) from rfl, cutD_drop, ← List.map_drop, show zip2D (.tup (ks.map kdD)) (.tup ((ks.drop 1).map kdD)) = ret (zipDs (ks.map kdD) ((ks.drop 1).map kdD)) from rfl, zipDs_kd]
    (try walk_at "dl")
    refine ⟨sz_small (by rw [List.length_map, List.length_zip]; omega), ?_⟩
    rw [lc_mapG (f := fun q : Kdt × Kdt => D.tup [kdD q.1, kdD q.2]) (g := fun _ => .bl true) (fun q hq => by
      refine eq_of_runs fun s => ?_
      have := asc_zip h.asc q hq
      unfold kdD
      (try walk_at "dl")
      rw [decide_eq_true this])]
    (try walk_at "dl")
    rw [List.map_const', allD_tt]
    (try walk_at "dl")
  rw [e]
  (try walk_at "dl")
end
section
variable {b B a A p : Int} {most most' : Int}
theorem changed_eq (kb : 0 < b ∧ b < 1073741824) (ka : 0 < a ∧ a < 1073741824) : m_changed [kd b B, .int p, kd a A] = ret (.int ((p * b + B) / a)) := by
  refine eq_of_runs fun s => ?_
  unfold m_changed fb_changed
  (try walk_at "dl")
  rw [Int.mul_comm]
end
/-! ### states -/
abbrev Stt := Kdt × Int
def stD (t : Stt) : D := .tup [kdD t.1, .int t.2]
theorem map_at {α : Type} {f : α → D} {xs : List α} {i : Nat} {d : D} (h : (xs.map f)[i]? = some d) : ∃ x, xs[i]? = some x ∧ d = f x := by
  rw [List.getElem?_map] at h
  cases q : xs[i]? with
  | none => rw [q] at h; cases h
  | some x => rw [q] at h; cases h; exact ⟨x, rfl, rfl⟩
/-! ### a browser in the store -/
abbrev brF (M : D) (l : Nat) : List (Str × D) := [("menu", M), ("states", .loc l)]
structure Brw (s : Sto) (n l : Nat) (M : D) (ds : List D) : Prop where
  o : s[n]? = some (some (.ins "Browser" (brF M l)))
  c : s[l]? = some (some (.lst ds))
theorem lk_menu {M : D} {l : Nat} : (brF M l).lookup ("menu" : Str) = some M := by kernel_rfl
theorem lk_states {M : D} {l : Nat} : (brF M l).lookup ("states" : Str) = some (D.loc l) := by kernel_rfl
theorem atI_last {α : Type} (xs : List α) (x : α) : L2.atI (xs ++ [x]) (-1) = some x := by
  have h : L2.ixN (xs ++ [x]).length (-1) = some xs.length := by
    unfold L2.ixN
    rw [List.length_append, List.length_singleton]
    simp only [show ¬ (0 : Int) ≤ -1 from by decide, if_false, show (0 : Int) ≤ -1 + ((xs.length + 1 : Nat) : Int) from by omega, if_true]
    first
      | (congr 1; omega)
      | (rw [if_pos (by omega)]; congr 1; omega)
      | (simp <;> omega)
  unfold L2.atI
  rw [h]
  show (xs ++ [x])[xs.length]? = some x
  rw [List.getElem?_append_right (Nat.le_refl _), Nat.sub_self]; rfl
section
variable {s : Sto} {n l : Nat} {M : D} {ds : List D} {k : Kdt} {p : Int} {Q : D → Sto → Prop} {K : D → Sto → Prop} {ρ : En}
theorem r_states (h : Brw s n l M ds) : runs (eFld "Browser" "states" (eVar 0) (some (.loc n) :: ρ)) s Q = Q (.loc l) s := by
  rw [r_fld]
  (try walk_at "dl")
  rw [r_fldD (insD_at h.o) lk_states]
theorem r_bmenu (h : Brw s n l M ds) : runs (eFld "Browser" "menu" (eVar 0) (some (.loc n) :: ρ)) s Q = Q M s := by
  rw [r_fld]
  (try walk_at "dl")
  rw [r_fldD (insD_at h.o) lk_menu]
theorem r_blast (h : Brw s n l M (ds ++ [stD (k, p)])) : runs (ixD (.loc l) (.int (-1))) s Q = Q (stD (k, p)) s := r_ixLoc h.c (atI_last _ _)
theorem page_eq (h : Brw s n l M (ds ++ [stD (k, p)])) : runs (m_Browser_page [.loc n]) s Q = Q (.int p) s := by
  unfold m_Browser_page fb_Browser_page
  (try walk_at "dl")
  rw [r_states h]
  (try walk_at "dl")
  rw [r_blast h]
  unfold stD
  (try walk_at "dl")
theorem anchor_eq (h : Brw s n l M (ds ++ [stD (k, p)])) (hk : Kd 1000 k.1 k.2) : runs (m_Browser_anchor [.loc n]) s Q = Q (.int (k.1 * p + k.2)) s := by
  have k0 := hk.b0
  have k1 := hk.b1
  unfold m_Browser_anchor fb_Browser_anchor
  (try walk_at "dl")
  rw [r_states h]
  (try walk_at "dl")
  rw [r_blast h]
  unfold stD kdD
  (try walk_at "dl")
  rw [r_states h]
  (try walk_at "dl")
  rw [r_blast h]
  unfold stD kdD
  (try walk_at "dl")
  rw [r_states h]
  (try walk_at "dl")
  rw [r_blast h]
  unfold stD kdD
  (try walk_at "dl")
theorem blen_eq {d : D} (h : Brw s n l M (d :: ds)) (hl : ds.length ≤ 100000) : runs (m_Browser___len__ [.loc n]) s Q = Q (.int (ds.length : Nat)) s := by
  unfold m_Browser___len__ fb_Browser___len__
  (try walk_at "dl")
  rw [r_states h]
  (try walk_at "dl")
  rw [r_slLoc h.c, cutD_tail]
  (try walk_at "dl")
  rw [p_len_lst]
  (try walk_at "dl")
end
theorem pg_menu {M : D} : putG "menu" M [] = ([("menu", M)] : List (Str × D)) := by kernel_rfl
theorem pg_states {M : D} {l : Nat} : putG "states" (.loc l) [("menu", M)] = brF M l := by kernel_rfl
/-- a store where nothing but n may differ -/
theorem init_ok {ks : List Kdt} {k0 : Kdt} {rest : List Kdt} {it : Int} {s : Sto} {n : Nat} {Q : D → Sto → Prop} (hm : Menu 6 1000 ks) (hk : ks = k0 :: rest) (hi : 0 ≤ it ∧ it ≤ 1000000000000000) (h : s[n]? = some (some (.ins "Browser" [])))
    (hQ : ∀ s', Brw s' n s.length (.tup (ks.map kdD)) [stD (k0, it / k0.1)] → s'.length = s.length + 1 → (∀ m, m < s.length → m ≠ n → s'[m]? = s[m]?) → Q .non s') :
    runs (m_Browser___init__ [.loc n, .tup (ks.map kdD), .int it]) s Q := by
  have kd0 := hm.kd k0 (by rw [hk]; exact List.mem_cons_self)
  have b0 := kd0.b0
  have b1 := kd0.b1
  have hn : n < s.length := (List.getElem?_eq_some_iff.mp h).1
  unfold m_Browser___init__ fb_Browser___init__
  (try walk_at "dl")
  rw [check_menu_eq hm]
  (try walk_at "dl")
  rw [in_range_eq hi]
  (try walk_at "dl")
  rw [r_sFld]
  (try walk_at "dl")
  rw [r_fldPut h (by decide)]
  (try walk_at "dl")
  rw [pg_menu, r_sFld]
  rw [show List.map kdD ks = kd k0.1 k0.2 :: List.map kdD rest from by rw [hk]; rfl]
  (try walk_at "dl")
  have h1 := at_set (y := some (Cell.ins "Browser" [("menu", D.tup (kd k0.1 k0.2 :: List.map kdD rest))])) h
  have h2 := at_old (t := [some (Cell.lst [D.tup [kd k0.1 k0.2, .int (it / k0.1)]])]) h1
  rw [r_fldPut h2 (by simp)]
  rw [show (List.set s n (some (Cell.ins "Browser" [("menu", D.tup (kd k0.1 k0.2 :: List.map kdD rest))]))).length = s.length from List.length_set, pg_states]
  (try walk_at "dl")
  have e : D.tup (kd k0.1 k0.2 :: List.map kdD rest) = .tup (ks.map kdD) := by rw [hk]; rfl
  rw [e] at h1 h2 ⊢
  generalize hA : (Cell.ins "Browser" [("menu", D.tup (ks.map kdD))]) = A at *
  refine hQ _ ⟨at_set h2, ?_⟩ ?_ fun m h3 h4 => ?_
  · rw [List.getElem?_set_ne (by omega), List.getElem?_append_right (by rw [List.length_set]; omega), List.length_set, Nat.sub_self]; rfl
  · rw [List.length_set, List.length_append, List.length_set]; rfl
  · rw [List.getElem?_set_ne (Ne.symm h4), List.getElem?_append_left (by rw [List.length_set]; omega), List.getElem?_set_ne (Ne.symm h4)]
section
variable {s : Sto} {n l : Nat} {ks : List Kdt} {ds : List D} {k o : Kdt} {p sz : Int} {Q : D → Sto → Prop}
theorem Brw.ne {s : Sto} {n l : Nat} {M : D} {ds : List D} (h : Brw s n l M ds) : n ≠ l := by
  rintro rfl
  have z := h.o.symm.trans h.c
  cases z
theorem Brw.put {s : Sto} {n l : Nat} {M : D} {ds : List D} (h : Brw s n l M ds) (es : List D) : Brw (s.set l (some (.lst es))) n l M es :=
  ⟨by rw [List.getElem?_set_ne (Ne.symm h.ne)]; exact h.o, at_set h.c⟩
/-- choose(size), the size on the menu -/
theorem choose1_ok (h : Brw s n l (.tup (ks.map kdD)) (ds ++ [stD (k, p)])) (hk : Kd 1000 k.1 k.2) (ho : Kd 1000 o.1 o.2) (hz : ds.length ≤ 100000) (hon : m_kind_on [.tup (ks.map kdD), .int sz] = ret (kdD o))
    (hQ : Q (.int ((k.1 * p + k.2) / o.1)) (s.set l (some (.lst (ds ++ [stD (k, p)] ++ [stD (o, (k.1 * p + k.2) / o.1)]))))) : runs (m_Browser_choose [.loc n, .int sz]) s Q := by
  have o0 := ho.b0
  have o1 := ho.b1
  have k0 := hk.b0
  have k1 := hk.b1
  unfold m_Browser_choose starM
  rw [if_pos (by rfl)]
  rw [show ([.loc n, .int sz] : List D).take 1 ++ [.tup (([.loc n, .int sz] : List D).drop 1)] = [.loc n, .tup [.int sz]] from rfl]
  unfold fb_Browser_choose
  (try walk_at "dl")
  rw [r_states h]
  (try walk_at "dl")
  rw [r_blast h]
  unfold stD
  (try walk_at "dl")
  refine runs_for (fun i ρ s' => s' = s ∧ (i = 0 ∧ ρ = [some (.loc n), some (.tup [.int sz]), none, some (kdD k), some (.int p), none] ∨ i = 1 ∧ ρ = [some (.loc n), some (.tup [.int sz]), some (.int sz), some (kdD o), some (.int ((k.1 * p + k.2) / o.1)), some (kdD o)])) ⟨rfl, .inl ⟨rfl, rfl⟩⟩ ?_ ?_
  · rintro i d ρ s1 hi ⟨rfl, ⟨rfl, rfl⟩ | ⟨rfl, rfl⟩⟩
    · cases hi
      simp only [r_fbody, r_gn, r_km, List.set_cons_succ, List.set_cons_zero]
      (try walk_at "dl")
      rw [r_bmenu h]
      (try walk_at "dl")
      rw [hon]
      (try walk_at "dl")
      rw [show kdD k = kd k.1 k.2 from rfl, show kdD o = kd o.1 o.2 from rfl, changed_eq hk.big ho.big]
      (try walk_at "dl")
      exact ⟨_, rfl, .inr (by rw [Int.mul_comm p k.1])⟩
    · cases hi
  · rintro ρ s1 ⟨rfl, ⟨hl, _⟩ | ⟨_, rfl⟩⟩
    · cases hl
    (try walk_at "dl")
    rw [r_states h]
    (try walk_at "dl")
    rw [r_cell h.c]
    (try walk_at "dl")
    rw [r_appD h.c (by rw [List.length_append]; show ds.length + 1 + 1 ≤ _; omega)]
    (try walk_at "dl")
    exact hQ
theorem in_ok (h : Brw s n l (.tup (ks.map kdD)) (ds ++ [stD (k, p)])) (hk : Kd 1000 k.1 k.2) (hp : 0 ≤ p ∧ p ≤ 1000000000000000) {x : Int} (hx : k.1 * p ≤ x ∧ x ≤ k.1 * p + k.1 - 1) (hQ : Q (.bl true) s) : runs (m_Browser___contains__ [.loc n, .int x]) s Q := by
  have k0 := hk.b0
  have k1 := hk.b1
  unfold m_Browser___contains__ fb_Browser___contains__
  (try walk_at "dl")
  rw [r_states h]
  (try walk_at "dl")
  rw [r_blast h]
  unfold stD kdD
  (try walk_at "dl")
  rw [r_states h]
  (try walk_at "dl")
  rw [r_blast h]
  unfold stD kdD
  (try walk_at "dl")
  rw [r_states h]
  (try walk_at "dl")
  rw [r_blast h]
  unfold stD kdD
  (try walk_at "dl")
  rw [in_range_eq hx]
  (try walk_at "dl")
  exact hQ
end
theorem same_items {n : Nat} {ds : List D} (h : ∀ d ∈ ds, mr_law_same n [d, d] = ret (.bl true)) {x0 x1 x2 x3 : Option D} :
    lcL (lcB [2, 3] (Tg.d (.tp [2, 3])) tYesD (eCall (aCons (eVar 2) (aCons (eVar 3) aNil)) (mr_law_same n)) [x0, x1, x2, x3]) (zipDs ds ds) = ret (List.replicate ds.length (.bl true)) := by
  rw [lcL_map (g := fun _ => some (.bl true))]
  · have : (zipDs ds ds).filterMap (fun _ => some (D.bl true)) = List.replicate ds.length (.bl true) := by
      unfold zipDs
      clear h
      induction ds with
      | nil => rfl
      | cons d ds ih =>
        rw [List.zipWith_cons_cons, List.filterMap_cons, ih, List.length_cons, List.replicate_succ]
    rw [this]
  · intro d hd
    obtain ⟨i, hi⟩ := List.getElem?_of_mem hd
    obtain ⟨x, y, hx, hy, rfl⟩ := zipDs_at hi
    obtain rfl : x = y := Option.some.inj (hx.symm.trans hy)
    refine eq_of_runs fun s => ?_
    (try walk_at "dl")
    rw [h x (List.mem_of_getElem? hx)]
    (try walk_at "dl")
theorem zip_len (ds : List D) : (zipDs ds ds).length = ds.length := by
  unfold zipDs
  rw [List.length_zipWith, Nat.min_self]
theorem same_lst {n : Nat} {ds : List D} (hl : ds.length ≤ 16777216) (h : ∀ d ∈ ds, mr_law_same n [d, d] = ret (.bl true)) : mr_law_same (n + 1) [.lst ds, .lst ds] = ret (.bl true) := by
  refine eq_of_runs fun s => ?_
  unfold mr_law_same fb_law_same
  (try walk_at "dl")
  rw [p_len_lst]
  (try walk_at "dl")
  rw [p_len_lst]
  (try walk_at "dl")
  rw [show zip2D (.lst ds) (.lst ds) = ret (zipDs ds ds) from rfl]
  (try walk_at "dl")
  refine ⟨sz_small (by rw [zip_len]; exact hl), ?_⟩
  rw [same_items h]
  (try walk_at "dl")
  rw [allD_tt]
  (try walk_at "dl")
theorem same_tup {n : Nat} {ds : List D} (hl : ds.length ≤ 16777216) (h : ∀ d ∈ ds, mr_law_same n [d, d] = ret (.bl true)) : mr_law_same (n + 1) [.tup ds, .tup ds] = ret (.bl true) := by
  refine eq_of_runs fun s => ?_
  unfold mr_law_same fb_law_same
  (try walk_at "dl")
  rw [p_len_tup]
  (try walk_at "dl")
  rw [p_len_tup]
  (try walk_at "dl")
  rw [show zip2D (.tup ds) (.tup ds) = ret (zipDs ds ds) from rfl]
  (try walk_at "dl")
  refine ⟨sz_small (by rw [zip_len]; exact hl), ?_⟩
  rw [same_items h]
  (try walk_at "dl")
  rw [allD_tt]
  (try walk_at "dl")
theorem same_i (n : Nat) (x : Int) : mr_law_same (n + 1) [.int x, .int x] = ret (.bl true) := by
  refine eq_of_runs fun s => ?_
  unfold mr_law_same fb_law_same
  (try walk_at "dl")
theorem same_b (n : Nat) (x : Bool) : mr_law_same (n + 1) [.bl x, .bl x] = ret (.bl true) := by
  refine eq_of_runs fun s => ?_
  unfold mr_law_same fb_law_same
  (try walk_at "dl")
theorem same_is (n : Nat) (xs : List Int) (hl : xs.length ≤ 16777216) : mr_law_same (n + 2) [.lst (xs.map D.int), .lst (xs.map D.int)] = ret (.bl true) :=
  same_lst (by rw [List.length_map]; exact hl) fun d hd => by
    obtain ⟨x, _, rfl⟩ := List.mem_map.mp hd
    exact same_i n x
/-! ### stores -/
structure Ext (s s' : Sto) : Prop where
  len : s.length ≤ s'.length
  at_ : ∀ m, m < s.length → s'[m]? = s[m]?
theorem Ext.refl (s : Sto) : Ext s s := ⟨Nat.le_refl _, fun _ _ => rfl⟩
theorem Ext.app {s s' : Sto} (h : Ext s s') (t : Sto) : Ext s (s' ++ t) := ⟨by rw [List.length_append]; have := h.len; omega, fun m hm => (List.getElem?_append_left (Nat.lt_of_lt_of_le hm h.len)).trans (h.at_ m hm)⟩
theorem Ext.set {s s' : Sto} (h : Ext s s') {a : Nat} (ha : s.length ≤ a) (x : Option Cell) : Ext s (s'.set a x) := ⟨by rw [List.length_set]; exact h.len, fun m hm => (List.getElem?_set_ne (by omega)).trans (h.at_ m hm)⟩
theorem Ext.chg {s s' : Sto} (h : Ext s s') (n : Nat) : Chg2 n s s' := ⟨h.len, fun m _ hm => h.at_ m hm⟩
theorem Ext.trans {a b c : Sto} (h : Ext a b) (k : Ext b c) : Ext a c := ⟨Nat.le_trans h.len k.len, fun m hm => (k.at_ m (Nat.lt_of_lt_of_le hm h.len)).trans (h.at_ m hm)⟩
theorem Ext.bag {s s' : Sto} (h : Ext s s') {n : Nat} {t : Int} (hb : Bag s n t) : Bag s' n t := by
  obtain ⟨a, b, c, e, h1, h2⟩ := hb.ex
  exact ⟨a, b, c, (h.at_ n (List.getElem?_eq_some_iff.mp e).1).trans e, h1, h2⟩
/-! ### one action of a browser -/
theorem p_isi_str {T : Ty} {x : Str} : isiD T (.str x) = ret (.bl (isi .str T)) := rfl
theorem pick5D {a b c d e : D} {v : Int} (h0 : 0 ≤ v) (h : v < 5) : ∃ x : D, ixD (.lst [a, b, c, d, e]) (.int v) = ret x ∧ x ∈ [a, b, c, d, e] := by
  have : v = 0 ∨ v = 1 ∨ v = 2 ∨ v = 3 ∨ v = 4 := by omega
  rcases this with rfl | rfl | rfl | rfl | rfl
  · exact ⟨a, p_ix_nat (n := 0) rfl, by simp⟩
  · exact ⟨b, p_ix_nat (n := 1) rfl, by simp⟩
  · exact ⟨c, p_ix_nat (n := 2) rfl, by simp⟩
  · exact ⟨d, p_ix_nat (n := 3) rfl, by simp⟩
  · exact ⟨e, p_ix_nat (n := 4) rfl, by simp⟩
theorem pick6D {a b c d e f : D} {v : Int} (h0 : 0 ≤ v) (h : v < 6) : ∃ x : D, ixD (.lst [a, b, c, d, e, f]) (.int v) = ret x ∧ x ∈ [a, b, c, d, e, f] := by
  have : v = 0 ∨ v = 1 ∨ v = 2 ∨ v = 3 ∨ v = 4 ∨ v = 5 := by omega
  rcases this with rfl | rfl | rfl | rfl | rfl | rfl
  · exact ⟨a, p_ix_nat (n := 0) rfl, by simp⟩
  · exact ⟨b, p_ix_nat (n := 1) rfl, by simp⟩
  · exact ⟨c, p_ix_nat (n := 2) rfl, by simp⟩
  · exact ⟨d, p_ix_nat (n := 3) rfl, by simp⟩
  · exact ⟨e, p_ix_nat (n := 4) rfl, by simp⟩
  · exact ⟨f, p_ix_nat (n := 5) rfl, by simp⟩
/-- no whole number between the two -/
def Off (lo hi : Int) (d : D) : Prop := d = .non ∨ (∃ b, d = .bl b) ∨ (∃ x, d = .str x) ∨ ∃ i, d = .int i ∧ ¬ (lo ≤ i ∧ i ≤ hi)
theorem in_range_no {lo hi : Int} {d : D} (h : Off lo hi d) : m_in_range [d, .int lo, .int hi] = ret (.bl false) := by
  refine eq_of_runs fun s => ?_
  unfold m_in_range fb_in_range
  rcases h with rfl | ⟨b, rfl⟩ | ⟨x, rfl⟩ | ⟨i, rfl, h⟩
  · (try walk_at "dl")
  · (try walk_at "dl")
  · (try walk_at "dl")
    rw [p_isi_str]
    (try walk_at "dl")
  · (try walk_at "dl")
    by_cases h1 : lo ≤ i
    · rw [decide_eq_true h1]
      (try walk_at "dl")
      rw [decide_eq_false (fun z => h ⟨h1, z⟩)]
      (try walk_at "dl")
    · rw [decide_eq_false h1]
      (try walk_at "dl")
theorem in_range_any {lo hi : Int} {d : D} (h : d = .non ∨ (∃ b, d = .bl b) ∨ (∃ x, d = .str x) ∨ ∃ i, d = .int i) : ∃ b, m_in_range [d, .int lo, .int hi] = ret (.bl b) := by
  by_cases q : Off lo hi d
  · exact ⟨false, in_range_no q⟩
  · rcases h with rfl | ⟨b, rfl⟩ | ⟨x, rfl⟩ | ⟨i, rfl⟩
    · exact absurd (.inl rfl) q
    · exact absurd (.inr (.inl ⟨_, rfl⟩)) q
    · exact absurd (.inr (.inr (.inl ⟨_, rfl⟩))) q
    · refine ⟨true, in_range_eq (Classical.byContradiction fun z => q (.inr (.inr (.inr ⟨i, rfl, z⟩))))⟩
section
variable {s : Sto} {n l : Nat} {ks os : List Kdt} {ds : List D} {k o : Kdt} {t : Stt} {p sz : Int} {Q : D → Sto → Prop} {odd : D}
theorem kind_on_yes (hm : Menu 6 1000 ks) {k : Kdt} (hk : k ∈ ks) : m_kind_on [.tup (ks.map kdD), .int k.1] = ret (kdD k) := by
  refine eq_of_runs fun s => ?_
  unfold m_kind_on fb_kind_on
  (try walk_at "dl")
  obtain ⟨j, hj⟩ := List.getElem?_of_mem hk
  refine runs_forR (fun i ρ s' => s' = s ∧ i ≤ j ∧ ∃ y2, ρ = [some (.tup (ks.map kdD)), some (.int k.1), y2]) ⟨rfl, Nat.zero_le _, _, rfl⟩ ?_ ?_
  · rintro i d ρ s1 hi ⟨rfl, hij, y2, rfl⟩
    obtain ⟨o, ho, rfl⟩ := map_at hi
    simp only [r_fbody, r_gn, r_km, List.set_cons_succ, List.set_cons_zero]
    unfold kdD
    (try walk_at "dl")
    by_cases he : i = j
    · subst he
      rw [hj] at ho
      cases ho
      rw [beq_self_eq_true]
      (try walk_at "dl")
      exact .inr ⟨_, rfl, rfl⟩
    · have hlt : i < j := by omega
      have hne : o.1 < k.1 := by
        obtain ⟨l1, e1⟩ := List.getElem?_eq_some_iff.mp ho
        obtain ⟨l2, e2⟩ := List.getElem?_eq_some_iff.mp hj
        rw [← e1, ← e2]
        exact (List.pairwise_iff_getElem.mp hm.asc) i j l1 l2 hlt
      rw [show (o.1 == k.1) = false from by rw [beq_eq_false_iff_ne]; omega]
      (try walk_at "dl")
      exact .inl ⟨_, rfl, by omega, _, rfl⟩
  · rintro ρ s1 ⟨rfl, hij, y2, rfl⟩
    rw [List.length_map] at hij
    have := (List.getElem?_eq_some_iff.mp hj).1
    omega
/-- no size of the menu -/
def NoSz (ks : List Kdt) (d : D) : Prop := d = .non ∨ (∃ b, d = .bl b) ∨ (∃ x, d = .str x) ∨ ∃ i, d = .int i ∧ ∀ k ∈ ks, k.1 ≠ i
theorem kind_on_no (h : NoSz ks odd) : rs (m_kind_on [.tup (ks.map kdD), odd]) s "NoSize" (fun s' => s' = s) := by
  refine rs_mk rfl (rs_seq2 ?_)
  simp only [List.map_cons, List.map_nil, List.cons_append, List.nil_append, List.replicate_succ, List.replicate_zero, Nat.reduceSub]
  (try walk_at "dl")
  refine runs_for (fun i ρ s' => s' = s ∧ ∃ y2, ρ = [some (.tup (ks.map kdD)), some odd, y2]) ⟨rfl, _, rfl⟩ ?_ ?_
  · rintro i d ρ s1 hi ⟨rfl, y2, rfl⟩
    obtain ⟨o, ho, rfl⟩ := map_at hi
    simp only [r_fbody, r_gn, r_km, List.set_cons_succ, List.set_cons_zero]
    unfold kdD
    (try walk_at "dl")
    rcases h with rfl | ⟨b, rfl⟩ | ⟨x, rfl⟩ | ⟨i, rfl, h⟩
    · (try walk_at "dl")
      exact ⟨_, rfl, _, rfl⟩
    · (try walk_at "dl")
      exact ⟨_, rfl, _, rfl⟩
    · rw [p_isi_str]
      (try walk_at "dl")
      exact ⟨_, rfl, _, rfl⟩
    · (try walk_at "dl")
      rw [show (o.1 == i) = false from by rw [beq_eq_false_iff_ne]; exact h o (List.mem_of_getElem? ho)]
      (try walk_at "dl")
      exact ⟨_, rfl, _, rfl⟩
  · rintro ρ s1 ⟨rfl, y2, rfl⟩
    exact ⟨_, rfl, rs_raise rfl⟩
/-! choose -/
def chF (t : Stt) (o : Kdt) : Stt := (o, (t.2 * t.1.1 + t.1.2) / o.1)
theorem chF_mem : ∀ {os : List Kdt} {t : Stt}, (∀ o ∈ os, o ∈ ks) → t.1 ∈ ks → (os.foldl chF t).1 ∈ ks
  | [], _, _, h => h
  | o :: os, t, h, _ => chF_mem (os := os) (t := chF t o) (fun x hx => h x (List.mem_cons_of_mem _ hx)) (h o List.mem_cons_self)
theorem choose_ok (h : Brw s n l (.tup (ks.map kdD)) (ds ++ [stD t])) (hm : Menu 6 1000 ks) (ht : t.1 ∈ ks) (ho : ∀ o ∈ os, o ∈ ks) (hz : ds.length ≤ 100000) (hos : os.length ≤ 100)
    (hQ : Q (.int (os.foldl chF t).2) (s.set l (some (.lst (ds ++ [stD t] ++ [stD (os.foldl chF t)]))))) : runs (m_Browser_choose (.loc n :: os.map fun o => .int o.1)) s Q := by
  unfold m_Browser_choose starM
  rw [if_pos (by rw [Bool.and_eq_true]; exact ⟨decide_eq_true (by rw [List.length_cons]; omega), sz_small (by rw [List.length_cons, List.length_map]; omega)⟩)]
  rw [show (.loc n :: os.map fun o => .int o.1 : List D).take 1 ++ [.tup ((.loc n :: os.map fun o => .int o.1 : List D).drop 1)] = [.loc n, .tup (os.map fun o => .int o.1)] from rfl]
  unfold fb_Browser_choose
  (try walk_at "dl")
  rw [r_states h]
  (try walk_at "dl")
  rw [show ds ++ [stD t] = ds ++ [stD (t.1, t.2)] from rfl] at h
  rw [r_blast h]
  unfold stD
  (try walk_at "dl")
  refine runs_for (fun i ρ s' => s' = s ∧ ∃ y2 y5, ρ = [some (.loc n), some (.tup (os.map fun o => .int o.1)), y2, some (kdD ((os.take i).foldl chF t).1), some (.int ((os.take i).foldl chF t).2), y5]) ⟨rfl, _, _, rfl⟩ ?_ ?_
  · rintro i d ρ s1 hi ⟨rfl, y2, y5, rfl⟩
    obtain ⟨o, hoi, rfl⟩ := map_at hi
    have hok := ho o (List.mem_of_getElem? hoi)
    have hu : ((os.take i).foldl chF t).1 ∈ ks := chF_mem (fun x hx => ho x (List.mem_of_mem_take hx)) ht
    have e : (os.take (i + 1)).foldl chF t = chF ((os.take i).foldl chF t) o := by
      rw [List.take_succ, hoi, List.foldl_append]; rfl
    rw [e]
    generalize (os.take i).foldl chF t = u at hu
    simp only [r_fbody, r_gn, r_km, List.set_cons_succ, List.set_cons_zero]
    (try walk_at "dl")
    rw [r_bmenu h]
    (try walk_at "dl")
    rw [kind_on_yes hm hok]
    (try walk_at "dl")
    have h1 := hm.kd _ hu
    have h2 := hm.kd _ hok
    rw [show kdD u.1 = kd u.1.1 u.1.2 from rfl, show kdD o = kd o.1 o.2 from rfl, changed_eq h1.big h2.big]
    (try walk_at "dl")
    exact ⟨_, rfl, _, _, rfl⟩
  · rintro ρ s1 ⟨rfl, y2, y5, rfl⟩
    rw [List.length_map, List.take_length]
    generalize os.foldl chF t = u at hQ ⊢
    (try walk_at "dl")
    rw [r_states h]
    (try walk_at "dl")
    rw [r_cell h.c]
    (try walk_at "dl")
    rw [r_appD h.c (by rw [List.length_append]; show ds.length + 1 + 1 ≤ _; omega)]
    (try walk_at "dl")
    exact hQ
theorem choose_no (h : Brw s n l (.tup (ks.map kdD)) (ds ++ [stD t])) (hm : Menu 6 1000 ks) (ht : t.1 ∈ ks) (ho : os = [] ∨ ∃ o, os = [o] ∧ o ∈ ks) (hn : NoSz ks odd) :
    rs (m_Browser_choose (.loc n :: ((os.map fun o => .int o.1) ++ [odd]))) s "NoSize" (fun s' => s' = s) := by
  rw [show ds ++ [stD t] = ds ++ [stD (t.1, t.2)] from rfl] at h
  refine rs_star ⟨by simp, ?_⟩ ?_
  · rcases ho with rfl | ⟨o, rfl, _⟩ <;> simp
  rw [show (.loc n :: ((os.map fun o => .int o.1) ++ [odd]) : List D).take 1 ++ [.tup ((.loc n :: ((os.map fun o => .int o.1) ++ [odd]) : List D).drop 1)] = [.loc n, .tup ((os.map fun o => .int o.1) ++ [odd])] from rfl]
  refine rs_mk rfl ?_
  unfold fb_Browser_choose
  refine rs_seq2 ?_
  simp only [List.map_cons, List.map_nil, List.cons_append, List.nil_append, List.replicate_succ, List.replicate_zero, Nat.reduceSub]
  (try walk_at "dl")
  rw [r_states h]
  (try walk_at "dl")
  rw [r_blast h]
  unfold stD
  (try walk_at "dl")
  refine ⟨_, rfl, rs_seq1 (rs_for ?_)⟩
  (try walk_at "dl")
  have last : ∀ (u : Stt) (y2 y5 : Option D) (D0 : D), rs (forL (fun d ρ => bnd (gN 2 d ρ) (sSeq (sAsg (eCall (aCons (eFld "Browser" "menu" (eVar 0)) (aCons (eVar 2) aNil)) m_kind_on) (gN 5)) (sPar 3 4 (eVar 5) (eCall (aCons (eVar 3) (aCons (eVar 4) (aCons (eVar 5) aNil))) m_changed)))) [odd] [some (.loc n), some D0, y2, some (kdD u.1), some (.int u.2), y5]) s "NoSize" (fun s' => s' = s) := fun u y2 y5 D0 => by
    refine rs_for1 (rs_body ?_)
    (try walk_at "dl")
    refine rs_seq1 (rs_asg (rs_call ?_))
    (try walk_at "dl")
    rw [r_bmenu h]
    (try walk_at "dl")
    exact kind_on_no hn
  rcases ho with rfl | ⟨o, rfl, hok⟩
  · exact last t _ _ _
  · refine rs_for2 ?_
    (try walk_at "dl")
    rw [r_bmenu h]
    (try walk_at "dl")
    rw [kind_on_yes hm hok]
    (try walk_at "dl")
    have h1 := hm.kd _ ht
    have h2 := hm.kd _ hok
    rw [show kdD t.1 = kd t.1.1 t.1.2 from rfl, show kdD o = kd o.1 o.2 from rfl, changed_eq h1.big h2.big]
    (try walk_at "dl")
    exact ⟨_, rfl, last (chF t o) _ _ _⟩
end
/-! turn, undo -/
theorem lk_most {M : D} {l : Nat} : (brF M l).lookup ("MOST" : Str) = none := by kernel_rfl
section
variable {s : Sto} {n l : Nat} {ks os : List Kdt} {ds : List D} {k o : Kdt} {t : Stt} {p sz : Int} {Q : D → Sto → Prop} {odd : D} {M : D}
theorem r_most {ρ : En} (h : Brw s n l M ds) : runs (eCon "Browser" "MOST" (.int 1000000000000000) (eVar 0) (some (.loc n) :: ρ)) s Q = Q (.int 1000000000000000) s := by
  rw [r_con]
  (try walk_at "dl")
  rw [r_conD (insD_at h.o) lk_most]
theorem turn_ok {f : Int} (h : Brw s n l M (ds ++ [stD t])) (hf : 0 ≤ t.2 + f ∧ t.2 + f ≤ 1000000000000000) (hz : ds.length ≤ 100000)
    (hQ : Q (.int (t.2 + f)) (s.set l (some (.lst (ds ++ [stD t] ++ [stD (t.1, t.2 + f)]))))) : runs (m_Browser_turn [.loc n, .int f]) s Q := by
  rw [show ds ++ [stD t] = ds ++ [stD (t.1, t.2)] from rfl] at h
  unfold m_Browser_turn fb_Browser_turn
  (try walk_at "dl")
  rw [r_states h]
  (try walk_at "dl")
  rw [r_blast h]
  unfold stD
  (try walk_at "dl")
  rw [r_most h]
  (try walk_at "dl")
  rw [in_range_eq (by omega)]
  (try walk_at "dl")
  rw [r_states h]
  (try walk_at "dl")
  rw [r_cell h.c]
  (try walk_at "dl")
  rw [r_appD h.c (by rw [List.length_append]; show ds.length + 1 + 1 ≤ _; omega)]
  (try walk_at "dl")
  exact hQ
theorem turn_no (h : Brw s n l M (ds ++ [stD t])) (ho : Off (-t.2) (1000000000000000 - t.2) odd) : rs (m_Browser_turn [.loc n, odd]) s "InvalidPage" (fun s' => s' = s) := by
  rw [show ds ++ [stD t] = ds ++ [stD (t.1, t.2)] from rfl] at h
  refine rs_mk rfl ?_
  unfold fb_Browser_turn
  refine rs_seq2 ?_
  simp only [List.map_cons, List.map_nil, List.cons_append, List.nil_append, List.replicate_succ, List.replicate_zero, Nat.reduceSub]
  (try walk_at "dl")
  rw [r_states h]
  (try walk_at "dl")
  rw [r_blast h]
  unfold stD
  (try walk_at "dl")
  refine ⟨_, rfl, rs_seq1 (rs_if1 ?_)⟩
  (try walk_at "dl")
  rw [r_most h]
  (try walk_at "dl")
  rw [in_range_no ho]
  (try walk_at "dl")
  exact rs_raise rfl
theorem undo_ok {k : Stt} (h : Brw s n l M (ds ++ [stD t] ++ [stD k]))
    (hQ : Q .non (s.set l (some (.lst (ds ++ [stD t]))))) : runs (m_Browser_undo [.loc n]) s Q := by
  unfold m_Browser_undo fb_Browser_undo
  (try walk_at "dl")
  rw [r_states h]
  (try walk_at "dl")
  rw [r_lenLoc h.c, List.length_append, List.length_append]
  (try walk_at "dl")
  rw [show ((((ds.length + [stD t].length + [stD k].length : Nat) : Int)) == 1) = false from by rw [beq_eq_false_iff_ne]; simp only [List.length_singleton]; omega]
  (try walk_at "dl")
  rw [r_epop, r_states h]
  (try walk_at "dl")
  rw [r_popD h.c]
  (try walk_at "dl")
  exact hQ
theorem undo_no (h : Brw s n l M [stD t]) : rs (m_Browser_undo [.loc n]) s "NothingToUndo" (fun s' => s' = s) := by
  refine rs_mk rfl ?_
  unfold fb_Browser_undo
  refine rs_seq1 (rs_if1 ?_)
  simp only [List.map_cons, List.map_nil, List.cons_append, List.nil_append, List.replicate_succ, List.replicate_zero, Nat.reduceSub]
  (try walk_at "dl")
  rw [r_states h]
  (try walk_at "dl")
  rw [r_lenLoc h.c]
  (try walk_at "dl")
  exact ⟨rfl, rs_raise rfl⟩
/-! how it looks -/
theorem size_eq (h : Brw s n l M (ds ++ [stD t])) : runs (m_Browser_size [.loc n]) s Q = Q (.int t.1.1) s := by
  rw [show ds ++ [stD t] = ds ++ [stD (t.1, t.2)] from rfl] at h
  unfold m_Browser_size fb_Browser_size
  (try walk_at "dl")
  rw [r_states h]
  (try walk_at "dl")
  rw [r_blast h]
  unfold stD kdD
  (try walk_at "dl")
theorem contains_eq (h : Brw s n l M (ds ++ [stD t])) (hk : Kd 1000 t.1.1 t.1.2) {a : D} : runs (m_Browser___contains__ [.loc n, a]) s Q = runs (m_in_range [a, .int (t.1.1 * t.2), .int (t.1.1 * t.2 + t.1.1 - 1)]) s Q := by
  have k0 := hk.b0
  have k1 := hk.b1
  rw [show ds ++ [stD t] = ds ++ [stD (t.1, t.2)] from rfl] at h
  unfold m_Browser___contains__ fb_Browser___contains__
  (try walk_at "dl")
  rw [r_states h]
  (try walk_at "dl")
  rw [r_blast h]
  unfold stD kdD
  (try walk_at "dl")
  rw [r_states h]
  (try walk_at "dl")
  rw [r_blast h]
  unfold stD kdD
  (try walk_at "dl")
  rw [r_states h]
  (try walk_at "dl")
  rw [r_blast h]
  unfold stD kdD
  (try walk_at "dl")
  congr 1
  funext d s'
  show kOut Q (.rt d) s' = _
  rw [r_ort]
end
/-! the law's comparison -/
theorem same_bl {x : Bool} : m_law_same [.bl x, .bl x] = ret (.bl true) := by cases x <;> (funext s; kernel_rfl)
theorem same_vnon : m_law_same [.tup [.str "value", .non], .tup [.str "value", .non]] = ret (.bl true) := by funext s; kernel_rfl
theorem same_ntu : m_law_same [.tup [.str "NothingToUndo"], .tup [.str "NothingToUndo"]] = ret (.bl true) := by funext s; kernel_rfl
theorem same_str : mr_law_same 3 [.str "value", .str "value"] = ret (.bl true) := by funext s; kernel_rfl
theorem same_vint {x : Int} : m_law_same [.tup [.str "value", .int x], .tup [.str "value", .int x]] = ret (.bl true) := same_tup (by simp) fun d hd => by
  simp only [List.mem_cons, List.not_mem_nil, or_false] at hd
  rcases hd with rfl | rfl
  · exact same_str
  · exact same_i 2 x
theorem law_in_eq (ds : List D) : m_law_in ds = m_in_range ds := rfl
/-! how it looks: the law's check -/
section
variable {s : Sto} {n l : Nat} {ds : List D} {t : Stt} {M d0 : D} {pre : List D}
theorem right_ok (h : Brw s n l M (d0 :: ds)) (e : d0 :: ds = pre ++ [stD t]) (hk : Kd 1000 t.1.1 t.1.2) (hz : ds.length ≤ 100000) : runs (m_law_right [.loc n, stD t, .int (ds.length : Nat)]) s fun d s' => d = .bl true ∧ s' = s := by
  have h' : Brw s n l M (pre ++ [stD t]) := e ▸ h
  have k0 := hk.b0
  have k1 := hk.b1
  have hb : Brw s n l M (pre ++ [stD (t.1, t.2)]) := h'
  unfold m_law_right fb_law_right
  (try walk_at "dl")
  unfold stD
  (try walk_at "dl")
  unfold kdD
  (try walk_at "dl")
  rw [r_prop]
  (try walk_at "dl")
  rw [r_isIns (insD_at h.o)]
  (try walk_at "dl")
  rw [r_noEr, size_eq h']
  (try walk_at "dl")
  rw [r_prop]
  (try walk_at "dl")
  rw [r_isIns (insD_at h.o)]
  (try walk_at "dl")
  rw [r_noEr, page_eq hb]
  (try walk_at "dl")
  rw [r_prop]
  (try walk_at "dl")
  rw [r_isIns (insD_at h.o)]
  (try walk_at "dl")
  rw [r_noEr, anchor_eq hb hk]
  (try walk_at "dl")
  rw [r_lenO (insD_at h.o) (i := (ds.length : Nat)) (by
    rw [blen_eq h hz]
    exact ⟨rfl, rfl⟩) ⟨smI_of (by omega), by omega⟩]
  (try walk_at "dl")
  rw [Int.mul_comm t.2 t.1.1]
  rw [show m_law_same [.lst [.int t.1.1, .int t.2, .int (t.1.1 * t.2 + t.1.2), .int (ds.length : Nat)], .lst [.int t.1.1, .int t.2, .int (t.1.1 * t.2 + t.1.2), .int (ds.length : Nat)]] = ret (.bl true) from same_is 2 [t.1.1, t.2, t.1.1 * t.2 + t.1.2, (ds.length : Nat)] (by simp)]
  (try walk_at "dl")
  rw [p_mkTup_of (by rfl)]
  (try walk_at "dl")
  generalize hg : kd t.1.1 t.1.2 = K0
  refine runs_for (fun i ρ s' => s' = s ∧ ∃ y4 y7, ρ = [some (.loc n), some (.tup [K0, .int t.2]), some (.int (ds.length : Nat)), some (.int (t.1.1 * t.2)), y4, some K0, some (.int t.2), y7]) ⟨rfl, _, _, rfl⟩ ?_ ?_
  · rintro i d ρ s1 hi ⟨rfl, y4, y7, rfl⟩
    have hd : d = .non ∨ (∃ b, d = .bl b) ∨ (∃ x, d = .str x) ∨ ∃ i, d = .int i := by
      have := List.mem_of_getElem? hi
      simp only [List.mem_cons, List.not_mem_nil, or_false] at this
      rcases this with rfl | rfl | rfl | rfl | rfl | rfl | rfl | rfl
      · exact .inr (.inr (.inr ⟨_, rfl⟩))
      · exact .inr (.inr (.inr ⟨_, rfl⟩))
      · exact .inr (.inr (.inr ⟨_, rfl⟩))
      · exact .inr (.inr (.inr ⟨_, rfl⟩))
      · exact .inl rfl
      · exact .inr (.inl ⟨_, rfl⟩)
      · exact .inr (.inr (.inl ⟨_, rfl⟩))
      · exact .inr (.inr (.inr ⟨_, rfl⟩))
    obtain ⟨b, hb1⟩ := in_range_any (lo := t.1.1 * t.2) (hi := t.1.1 * t.2 + t.1.1 - 1) hd
    simp only [r_fbody, r_gn, r_km, List.set_cons_succ, List.set_cons_zero]
    subst hg
    (try walk_at "dl")
    rw [law_in_eq, hb1]
    (try walk_at "dl")
    rw [r_inO (insD_at h.o) (b := b) (by
      rw [contains_eq h' hk, hb1, r_ret]
      exact ⟨rfl, rfl⟩)]
    (try walk_at "dl")
    rw [same_bl]
    (try walk_at "dl")
    exact ⟨_, rfl, _, _, rfl⟩
  · rintro ρ s1 ⟨rfl, y4, y7, rfl⟩
    (try walk_at "dl")
end
/-! ### == -/
theorem eqv_menu {ks hs : List Kdt} : eqv (.tup (ks.map kdD)) (.tup (hs.map kdD)) = decide (ks = hs) := eqv_ps ks hs
theorem smp_menu (ks : List Kdt) : smp 9 (.tup (ks.map kdD)) = true := smp_ps ks
theorem smp_st (t : Stt) : smp 9 (stD t) = true := rfl
section
variable {s : Sto} {n l n2 l2 : Nat} {ds es : List D} {t u : Stt} {ks hs : List Kdt} {Q : D → Sto → Prop}
theorem r_menu1 {M : D} {ds : List D} {d0 : Option D} {ρ : En} (h : Brw s n l M ds) : runs (eFld "Browser" "menu" (eVar 1) (d0 :: some (.loc n) :: ρ)) s Q = Q M s := by
  rw [r_fld]
  (try walk_at "dl")
  rw [r_fldD (insD_at h.o) lk_menu]
theorem r_states1 {M : D} {ds : List D} {d0 : Option D} {ρ : En} (h : Brw s n l M ds) : runs (eFld "Browser" "states" (eVar 1) (d0 :: some (.loc n) :: ρ)) s Q = Q (.loc l) s := by
  rw [r_fld]
  (try walk_at "dl")
  rw [r_fldD (insD_at h.o) lk_states]
end
section
variable {s : Sto} {n l n2 l2 : Nat} {ds es : List D} {t u : Stt} {ks hs : List Kdt} {Q : D → Sto → Prop}
theorem eq_run (h : Brw s n l (.tup (ks.map kdD)) (ds ++ [stD t])) (k : Brw s n2 l2 (.tup (hs.map kdD)) (es ++ [stD u])) :
    runs (m_Browser___eq__ [.loc n, .loc n2]) s fun d s' => d = .bl (decide (ks = hs) && eqv (stD t) (stD u)) ∧ s' = s := by
  have h' : Brw s n l (.tup (ks.map kdD)) (ds ++ [stD (t.1, t.2)]) := h
  have k' : Brw s n2 l2 (.tup (hs.map kdD)) (es ++ [stD (u.1, u.2)]) := k
  unfold m_Browser___eq__ fb_Browser___eq__
  (try walk_at "dl")
  rw [r_isiO1 (insD_at k.o)]
  (try walk_at "dl")
  rw [r_bmenu h]
  (try walk_at "dl")
  rw [r_menu1 k]
  (try walk_at "dl")
  rw [p_eq_smp (smp_menu ks) (smp_menu hs), eqv_menu]
  (try walk_at "dl")
  by_cases e : ks = hs
  · rw [decide_eq_true e]
    (try walk_at "dl")
    rw [r_states h]
    (try walk_at "dl")
    rw [r_blast h']
    (try walk_at "dl")
    rw [r_states1 k]
    (try walk_at "dl")
    rw [r_blast k']
    (try walk_at "dl")
    rw [p_eq_smp (smp_st _) (smp_st _)]
    (try walk_at "dl")
  · rw [decide_eq_false e]
    (try walk_at "dl")
theorem eq_tup {es : List D} (h : Brw s n l (.tup (ks.map kdD)) ds) : runs (m_Browser___eq__ [.loc n, .tup es]) s fun d s' => d = .bl false ∧ s' = s := by
  unfold m_Browser___eq__ fb_Browser___eq__
  (try walk_at "dl")
  rw [r_isiO0]
  (try walk_at "dl")
end
/-! ### a new browser -/
section
variable {s : Sto} {Q : D → Sto → Prop} {ks : List Kdt}
theorem make_ok {k0 : Kdt} {rest : List Kdt} {it : Int} (hm : Menu 6 1000 ks) (hk : ks = k0 :: rest) (hi : 0 ≤ it ∧ it ≤ 1000000000000000)
    (hQ : ∀ s', Brw s' s.length (s.length + 1) (.tup (ks.map kdD)) [stD (k0, it / k0.1)] → Ext s s' → s'.length = s.length + 2 → Q (.loc s.length) s') : runs (mkIns "Browser" m_Browser___init__ [.tup (ks.map kdD), .int it]) s Q := by
  refine r_mkIns ?_
  refine init_ok hm hk hi at_new fun s2 hb hl hx => ⟨rfl, ?_⟩
  rw [List.length_append, List.length_singleton] at hb hl hx
  refine hQ s2 hb ⟨by omega, fun m hm => ?_⟩ (by omega)
  rw [hx m (by omega) (by omega), List.getElem?_append_left hm]
/-! ### middle -/
theorem r_callK {n l : Nat} {fa fk : En → M (List D)} {m : List D → M D} {ρ : En} {s : Sto} {Q : D → Sto → Prop} : runs (eCallK n l fa fk m ρ) s Q = runs (bnd (fa ρ) fun ds => bnd (fk ρ) fun zs => if (ds.length == n && zs.length == l) = true then m (ds ++ zs) else stuck) s Q := rfl
theorem kind_of_mid {b : Int} (h : 1 ≤ b ∧ b ≤ 1000) : m_kind_of [.int b, .str "middle"] = ret (kd b (b / 2)) := by
  refine eq_of_runs fun s => ?_
  unfold m_kind_of fb_kind_of m_check_number fb_check_number
  (try walk_at "dl")
  rw [in_range_eq h]
  (try walk_at "dl")
  rw [p_isi_str]
  (try walk_at "dl")
  rw [show memD true (.str "middle") (.tup [.str "first", .str "middle", .str "last"]) = ret (.bl false) from by funext s; kernel_rfl]
  (try walk_at "dl")
  rw [show eqD (.str "middle") (.str "middle") = ret (.bl true) from by funext s; kernel_rfl]
  (try walk_at "dl")
theorem sort2 {a b A B : Int} (h : b < a) : asortD mkLst (.lst [.tup [.int a, kd a A], .tup [.int b, kd b B]]) = ret (.lst [.tup [.int b, kd b B], .tup [.int a, kd a A]]) := by
  funext s
  have hok : aokD [.tup [.int a, kd a A], .tup [.int b, kd b B]] = true := by
    unfold aokD
    simp [okD, isT1, D.py, D.pys, PySem.W.alike, PySem.W.alikeAll, SeqAt.shaped, PyData.canLay0, PyData.canLayAll0, PyData.depth, PyData.depthAll]
  have h1 : ale (.tup [.int a, kd a A]) (.tup [.int b, kd b B]) = false := by
    show (!PySem.W.dataLt (.tuple [.int b, .tuple [.int b, .int B]]) (.tuple [.int a, .tuple [.int a, .int A]])) = false
    rw [PySem.W.dataLt_tuple, PySem.W.dataLt_all_no (by simp [PySem.W.alike]) (by show (b == a) = false; rw [beq_eq_false_iff_ne]; omega), PySem.W.dataLt_int, decide_eq_true h]
    rfl
  show (if aokD [.tup [.int a, kd a A], .tup [.int b, kd b B]] = true then mkLst (asort [.tup [.int a, kd a A], .tup [.int b, kd b B]]) s else .no) = _
  rw [if_pos hok]
  have e : asort [.tup [.int a, kd a A], .tup [.int b, kd b B]] = [.tup [.int b, kd b B], .tup [.int a, kd a A]] := by
    unfold asort
    simp [List.mergeSort, List.MergeSort.Internal.splitInTwo, List.merge, h1]
  rw [e]
  rfl
theorem middle_ok {a b : Int} (h : b < a) (hb : 1 ≤ b) (ha : a ≤ 1000)
    (hQ : ∀ s', Brw s' s.length (s.length + 1) (.tup ([(b, b / 2), (a, a / 2)].map kdD)) [stD ((b, b / 2), 0)] → Ext s s' → s'.length = s.length + 2 → Q (.loc s.length) s') : runs (m_Browser_middle [.gl "Browser", .int a, .int b]) s Q := by
  unfold m_Browser_middle starM
  rw [if_pos (by rfl)]
  rw [show ([.gl "Browser", .int a, .int b] : List D).take 1 ++ [.tup (([.gl "Browser", .int a, .int b] : List D).drop 1)] = [.gl "Browser", .tup [.int a, .int b]] from rfl]
  unfold fb_Browser_middle
  (try walk_at "dl")
  refine ⟨by rfl, ?_⟩
  rw [show ([.int a, .int b] : List D) = [a, b].map D.int from rfl, lc_map (f := fun x => kd x (x / 2)) (fun x hx => by
    have hx' : 1 ≤ x ∧ x ≤ 1000 := by
      simp only [List.mem_cons, List.not_mem_nil, or_false] at hx
      rcases hx with rfl | rfl <;> omega
    refine eq_of_runs fun s => ?_
    (try walk_at "dl")
    rw [r_callK]
    (try walk_at "dl")
    rw [if_pos (by rfl), show ([.int x] ++ [.str "middle"] : List D) = [.int x, .str "middle"] from rfl, kind_of_mid hx']
    (try walk_at "dl"))]
  (try walk_at "dl")
  rw [r_makeL]
  (try walk_at "dl")
  rw [r_isGl]
  (try walk_at "dl")
  refine ⟨by rfl, ?_⟩
  rw [show ([a, b].map fun x => kd x (x / 2)) = [(a, a / 2), (b, b / 2)].map kdD from rfl, lc_mapG (f := kdD) (g := fun k => D.tup [.int k.1, kdD k]) (fun k _ => by
    refine eq_of_runs fun s => ?_
    (try walk_at "dl")
    unfold kdD
    (try walk_at "dl"))]
  (try walk_at "dl")
  rw [show ([(a, a / 2), (b, b / 2)].map fun k => D.tup [.int k.1, kdD k]) = [.tup [.int a, kd a (a / 2)], .tup [.int b, kd b (b / 2)]] from rfl, sort2 h]
  (try walk_at "dl")
  refine ⟨by rfl, ?_⟩
  rw [show ([.tup [.int b, kd b (b / 2)], .tup [.int a, kd a (a / 2)]] : List D) = [(b, b / 2), (a, a / 2)].map (fun k : Kdt => D.tup [.int k.1, kdD k]) from rfl, lc_mapG (f := fun k : Kdt => D.tup [.int k.1, kdD k]) (g := kdD) (fun k _ => by
    refine eq_of_runs fun s => ?_
    (try walk_at "dl"))]
  (try walk_at "dl")
  rw [show tupleD (.lst ([(b, b / 2), (a, a / 2)].map kdD)) = ret (.tup ([(b, b / 2), (a, a / 2)].map kdD)) from rfl]
  (try walk_at "dl")
  rw [show dfl [.int 0] (mkIns "Browser" m_Browser___init__) [.tup ([(b, b / 2), (a, a / 2)].map kdD)] = mkIns "Browser" m_Browser___init__ [.tup ([(b, b / 2), (a, a / 2)].map kdD), .int 0] from rfl]
  refine make_ok (k0 := (b, b / 2)) (rest := [(a, a / 2)]) (ks := [(b, b / 2), (a, a / 2)]) ⟨by simp, by simp, fun k hk => ?_, by simp; exact h⟩ rfl (by omega) fun s' h1 h2 h3 => ?_
  · simp only [List.mem_cons, List.not_mem_nil, or_false] at hk
    rcases hk with rfl | rfl
    · exact ⟨by omega, by show b ≤ 1000; omega, by show 0 ≤ b / 2; omega, by show b / 2 < b; omega⟩
    · exact ⟨by show 1 ≤ a; omega, ha, by show 0 ≤ a / 2; omega, by show a / 2 < a; omega⟩
  · rw [show ((0 : Int) / ((b, b / 2) : Kdt).1) = 0 from Int.zero_ediv _] at h1
    (try walk_at "dl")
    exact hQ s' h1 h2 h3
end
/-! ### a drawn action -/
abbrev tabS : Option Cell := some (.tab "_law_step" "_law_step.<locals>.<lambda>")
theorem Brw.chg {s s' : Sto} {n l nb : Nat} {M : D} {ds : List D} (h : Brw s n l M ds) (c : Chg nb s s') (h1 : n ≠ nb) (h2 : l ≠ nb) : Brw s' n l M ds := ⟨(c.at_ n h1).trans h.o, (c.at_ l h2).trans h.c⟩
theorem nf_choose {M : D} {l : Nat} : (brF M l).lookup ("choose" : Str) = none := by kernel_rfl
theorem nf_turn {M : D} {l : Nat} : (brF M l).lookup ("turn" : Str) = none := by kernel_rfl
theorem nf_undo {M : D} {l : Nat} : (brF M l).lookup ("undo" : Str) = none := by kernel_rfl
theorem eq_page : eqD (.tup [.str "InvalidPage"]) (.tup [.str "InvalidPage"]) = ret (.bl true) := by funext s; kernel_rfl
theorem eq_size : eqD (.tup [.str "NoSize"]) (.tup [.str "NoSize"]) = ret (.bl true) := by funext s; kernel_rfl
section
variable {s : Sto} {n l nb : Nat} {ks os : List Kdt} {pre : List D} {t : Stt} {tt : Int} {Q : D → Sto → Prop}
theorem law_change_eq {b B a A p : Int} (ka : 0 < a ∧ a < 1073741824) (hb : b < 1073741824 ∧ 0 < b) : m_law_change [kd b B, .int p, kd a A] = ret (.int ((p * b + B) / a)) := by
  refine eq_of_runs fun s => ?_
  unfold m_law_change fb_law_change
  (try walk_at "dl")
  rw [sub_mod_div ka.1]
theorem law_choose_ok (h : Brw s n l (.tup (ks.map kdD)) (pre ++ [stD t])) (hm : Menu 6 1000 ks) (ht : t.1 ∈ ks) (ho : ∀ o ∈ os, o ∈ ks) (hz : pre.length ≤ 100000) (hos : os.length ≤ 2)
    (hQ : Q (.int (os.foldl chF t).2) (s.set l (some (.lst (pre ++ [stD t] ++ [stD (os.foldl chF t)]))))) : runs (m_law_choose [.loc n, .tup (os.map fun o => .int o.1)]) s Q := by
  have hc := choose_ok h hm ht ho hz (by omega) hQ
  unfold m_law_choose fb_law_choose
  match os, hos, hc with
  | [], _, hc =>
    (try walk_at "dl")
    rw [show ([].map fun o : Kdt => D.int o.1) = ([] : List D) from rfl, p_eq_smp rfl rfl, show eqv (.tup []) (.tup []) = true from rfl]
    (try walk_at "dl")
    rw [r_meth]
    (try walk_at "dl")
    rw [r_noFld (insD_at h.o) nf_choose]
    (try walk_at "dl")
    refine runs_mono hc fun d s' q => ?_
    (try walk_at "dl")
    exact q
  | [a], _, hc =>
    (try walk_at "dl")
    rw [show ([a].map fun o : Kdt => D.int o.1) = [D.int a.1] from rfl, p_eq_smp rfl rfl, show eqv (.tup [D.int a.1]) (.tup []) = false from rfl]
    (try walk_at "dl")
    rw [r_meth]
    (try walk_at "dl")
    rw [r_noFld (insD_at h.o) nf_choose]
    (try walk_at "dl")
    refine runs_mono hc fun d s' q => ?_
    (try walk_at "dl")
    exact q
  | [a, b], _, hc =>
    (try walk_at "dl")
    rw [show ([a, b].map fun o : Kdt => D.int o.1) = [D.int a.1, D.int b.1] from rfl, p_eq_smp rfl rfl, show eqv (.tup [D.int a.1, D.int b.1]) (.tup []) = false from rfl]
    (try walk_at "dl")
    rw [r_meth]
    (try walk_at "dl")
    rw [r_noFld (insD_at h.o) nf_choose]
    (try walk_at "dl")
    refine runs_mono hc fun d s' q => ?_
    (try walk_at "dl")
    exact q
/-- how far a page may lie -/
def Near (ks : List Kdt) (X : Int) (t : Stt) : Prop := t.1 ∈ ks ∧ 0 ≤ t.2 ∧ (t.2 + 1) * t.1.1 ≤ X
theorem near_ch {X : Int} {o : Kdt} (hm : Menu 4 60 ks) (h : Near ks X t) (ho : o ∈ ks) : Near ks (X + 60) (chF t o) := by
  obtain ⟨h1, h2, h3⟩ := h
  have k := hm.kd _ h1
  have k' := hm.kd _ ho
  have b0 := k'.b0
  have b1 := k'.b1
  have c0 := k.b0
  have p0 := k.p0
  have p1 := k.p1
  have hn : 0 ≤ t.2 * t.1.1 := Int.mul_nonneg h2 (by omega)
  have hd := div_le (x := t.2 * t.1.1 + t.1.2) (a := o.1) (by omega)
  rw [Int.add_mul, Int.one_mul] at h3
  refine ⟨ho, Int.ediv_nonneg (by omega) (by omega), ?_⟩
  show ((t.2 * t.1.1 + t.1.2) / o.1 + 1) * o.1 ≤ X + 60
  rw [Int.add_mul, Int.one_mul]
  omega
theorem near_fold (hm : Menu 4 60 ks) : ∀ {os : List Kdt} {t : Stt} {X : Int}, Near ks X t → (∀ o ∈ os, o ∈ ks) → Near ks (X + 60 * os.length) (os.foldl chF t)
  | [], _, _, h, _ => by simpa using h
  | o :: os, t, X, h, ho => by
    have := near_fold hm (os := os) (near_ch hm h (ho o List.mem_cons_self)) fun x hx => ho x (List.mem_cons_of_mem _ hx)
    rw [List.length_cons, Int.natCast_add]
    refine ⟨this.1, this.2.1, Int.le_trans this.2.2 (by omega)⟩
theorem near_page {X : Int} (hm : Menu 4 60 ks) (h : Near ks X t) : t.2 < X := by
  have c0 := (hm.kd _ h.1).b0
  have := Int.mul_le_mul_of_nonneg_left (show 1 ≤ t.1.1 by omega) (show 0 ≤ t.2 + 1 by have := h.2.1; omega)
  have := h.2.2
  omega
theorem near_turn {X f : Int} (hm : Menu 4 60 ks) (h : Near ks X t) (hf : 0 ≤ t.2 + f ∧ f ≤ 14) : Near ks (X + 840) (t.1, t.2 + f) := by
  have k := hm.kd _ h.1
  have c0 := k.b0
  have c1 := k.b1
  refine ⟨h.1, hf.1, ?_⟩
  show (t.2 + f + 1) * t.1.1 ≤ X + 840
  have h3 := h.2.2
  have e : (t.2 + f + 1) * t.1.1 = (t.2 + 1) * t.1.1 + f * t.1.1 := by rw [← Int.add_mul]; congr 1; omega
  have : f * t.1.1 ≤ 14 * 60 := by
    rcases Int.lt_or_le f 0 with q | q
    · have := Int.mul_nonneg (show 0 ≤ -f by omega) (show 0 ≤ t.1.1 by omega)
      rw [Int.neg_mul] at this
      omega
    · exact Int.mul_le_mul hf.2 c1 (by omega) (by omega)
  omega
/-- what a drawn action leaves -/
structure Done (s s' : Sto) (n l nb : Nat) (M : D) (ks : List Kdt) (pre : List D) (t : Stt) (X tt : Int) (add : List Stt) : Prop where
  add1 : add = [] ∨ ∃ u, add = [u] ∧ Near ks (X + 1000) u
  brw : Brw s' n l M (pre ++ [stD t] ++ add.map stD)
  bag : Bag s' nb (tt + 20)
  len : s'.length = s.length
  at_ : ∀ m, m ≠ nb → m ≠ l → s'[m]? = s[m]?
theorem step_ok {X : Int} (hB : Bag s nb tt) (hb0 : tt < 4611686018420000000) (h : Brw s n l (.tup (ks.map kdD)) (pre ++ [stD t])) (hm : Menu 4 60 ks) (hz : pre.length ≤ 1000) (hn : Near ks X t) (hX : X ≤ 10000000) (htab : s[1]? = some tabS) (d1 : nb ≠ n) (d2 : nb ≠ l) (d3 : 2 ≤ nb) (d4 : 2 ≤ l) :
    runs (m_law_step [.loc nb, .loc n, .tup (ks.map kdD), stD t]) s fun d s' => ∃ add : List Stt, d = .tup [.bl true, .lst (add.map stD)] ∧ Done s s' n l nb (.tup (ks.map kdD)) ks pre t X tt add := by
  have hm6 := hm.mono (m2 := 6) (t2 := 1000) (by omega) (by omega)
  have hpg := near_page hm hn
  have hp0 := hn.2.1
  have none_ : ∀ {s' : Sto}, Chg nb s s' → Bag s' nb (tt + 20) → Done s s' n l nb (.tup (ks.map kdD)) ks pre t X tt [] := fun c b =>
    ⟨.inl rfl, by rw [List.map_nil, List.append_nil]; exact h.chg c d1.symm d2.symm, b, c.len, fun m h1 _ => c.at_ m h1⟩
  have one_ : ∀ {s1 : Sto} {u : Stt}, Chg nb s s1 → Bag s1 nb (tt + 20) → Near ks (X + 1000) u → Done s (s1.set l (some (.lst (pre ++ [stD t] ++ [stD u])))) n l nb (.tup (ks.map kdD)) ks pre t X tt [u] := fun {s1 u} c b hu => by
    have hb := (h.chg c d1.symm d2.symm).put (pre ++ [stD t] ++ [stD u])
    exact ⟨.inr ⟨u, rfl, hu⟩, hb, b.keep (Chg.set l _ _).two d2, by rw [List.length_set]; exact c.len, fun m h1 h2 => (List.getElem?_set_ne (Ne.symm h2)).trans (c.at_ m h1)⟩
  unfold m_law_step fb_law_step
  (try walk_at "dl")
  rw [show stD t = D.tup [kdD t.1, .int t.2] from rfl]
  (try walk_at "dl")
  refine runs_mono (take_ok hB (by decide) (by omega)) ?_
  rintro _ s1 ⟨way, rfl, w0, w1, hb1, hc1⟩
  have htab1 : s1[1]? = some tabS := (hc1.at_ 1 (by omega)).trans htab
  have h1 := h.chg hc1 d1.symm d2.symm
  (try walk_at "dl")
  by_cases e4 : way < 4
  · rw [decide_eq_true e4]
    (try walk_at "dl")
    refine runs_mono (take_ok hb1 (by decide) (by omega)) ?_
    rintro _ s2 ⟨many, rfl, m0, m1, hb2, hc2⟩
    (try walk_at "dl")
    rw [p_range1_int (smI_of (by omega))]
    (try walk_at "dl")
    refine ⟨sz_small (by rw [rgD_len]; omega), ?_⟩
    have hks : 1 ≤ ks.length ∧ ks.length ≤ 4 := ⟨List.length_pos_iff.mpr hm.ne, hm.len⟩
    refine runs_lc (fun i acc s' => ∃ os : List Kdt, acc = os.map kdD ∧ os.length = i ∧ (∀ o ∈ os, o ∈ ks) ∧ Bag s' nb (tt + 1 + 1 + (i : Int)) ∧ Chg nb s s') ⟨[], rfl, rfl, fun _ h => (by cases h), hb2.mono (by omega), hc1.trans hc2⟩ ?_ ?_
    · rintro i d acc s3 hi ⟨os, rfl, hl, hos, hb3, hc3⟩
      have hi2 : i < many.toNat := by
        have := (List.getElem?_eq_some_iff.mp hi).1
        rw [rgD_len] at this; exact this
      (try walk_at "dl")
      rw [p_len_tup, List.length_map]
      (try walk_at "dl")
      refine runs_mono (take_ok hb3 (by omega) (by omega)) ?_
      rintro _ s4 ⟨v, rfl, v0, v1, hb4, hc4⟩
      obtain ⟨k, hk⟩ : ∃ k, ks[v.toNat]? = some k := ⟨_, List.getElem?_eq_getElem (by omega)⟩
      (try walk_at "dl")
      rw [show (D.int v) = .int ((v.toNat : Nat) : Int) from by rw [Int.toNat_of_nonneg v0], p_ix_tnat (a := kdD k) (by rw [List.getElem?_map, hk]; rfl)]
      (try walk_at "dl")
      refine ⟨os ++ [k], by rw [List.map_append]; rfl, by rw [List.length_append, hl]; rfl, fun o ho => ?_, hb4.mono (by omega), hc3.trans hc4⟩
      rcases List.mem_append.mp ho with ho | ho
      · exact hos o ho
      · have : o = k := by simpa using ho
        rw [this]; exact List.mem_of_getElem? hk
    · rintro acc s3 ⟨os, rfl, hl, hos, hb3, hc3⟩
      rw [rgD_len] at hl
      have hl2 : os.length ≤ 2 := by omega
      have h3 := h.chg hc3 d1.symm d2.symm
      have htab3 : s3[1]? = some tabS := (hc3.at_ 1 (by omega)).trans htab
      (try walk_at "dl")
      refine runs_for (fun i ρ s' => s' = s3 ∧ ∃ x10, ρ = [some (.loc nb), some (.loc n), some (.tup (ks.map kdD)), some (stD t), none, none, some (kdD ((os.take i).foldl chF t).1), some (.int ((os.take i).foldl chF t).2), some (.int way), some (.lst (os.map kdD)), x10, none, none, none, none]) ⟨rfl, _, rfl⟩ ?_ ?_
      · rintro i d ρ s4 hi ⟨rfl, x10, rfl⟩
        obtain ⟨o, hoi, rfl⟩ := map_at hi
        have hok := hos o (List.mem_of_getElem? hoi)
        have hu : ((os.take i).foldl chF t).1 ∈ ks := chF_mem (fun x hx => hos x (List.mem_of_mem_take hx)) hn.1
        have e : (os.take (i + 1)).foldl chF t = chF ((os.take i).foldl chF t) o := by
          rw [List.take_succ, hoi, List.foldl_append]; rfl
        rw [e]
        generalize (os.take i).foldl chF t = u at hu
        simp only [r_fbody, r_gn, r_km, List.set_cons_succ, List.set_cons_zero]
        have k1 := hm6.kd _ hu
        have k2 := hm6.kd _ hok
        have k1' := k1.big
        (try walk_at "dl")
        rw [show kdD u.1 = kd u.1.1 u.1.2 from rfl, show kdD o = kd o.1 o.2 from rfl, law_change_eq k2.big ⟨k1'.2, k1'.1⟩]
        (try walk_at "dl")
        exact ⟨_, rfl, _, rfl⟩
      · rintro ρ s4 ⟨rfl, x10, rfl⟩
        rw [List.length_map, List.take_length]
        have hu := near_fold hm hn hos
        (try walk_at "dl")
        refine eout_ok htab3 ?_
        (try walk_at "dl")
        refine ⟨sz_small (by rw [List.length_map]; omega), ?_⟩
        rw [lc_mapG (f := kdD) (g := fun o => D.int o.1) (fun o _ => by
          refine eq_of_runs fun s => ?_
          unfold kdD
          (try walk_at "dl"))]
        (try walk_at "dl")
        rw [show tupleD (.lst (os.map fun o => D.int o.1)) = ret (.tup (os.map fun o => D.int o.1)) from rfl]
        (try walk_at "dl")
        refine law_choose_ok h3 hm6 hn.1 hos (by omega) hl2 ?_
        (try walk_at "dl")
        rw [same_vint]
        (try walk_at "dl")
        refine ⟨[os.foldl chF t], rfl, one_ hc3 (hb3.mono (by rw [rgD_len]; omega)) ⟨hu.1, hu.2.1, Int.le_trans hu.2.2 (by omega)⟩⟩
  · rw [decide_eq_false e4]
    (try walk_at "dl")
    by_cases e6 : way < 6
    · rw [decide_eq_true e6]
      (try walk_at "dl")
      refine runs_mono (take_ok hb1 (by decide) (by omega)) ?_
      rintro _ s2 ⟨v, rfl, v0, v1, hb2, hc2⟩
      have hc := hc1.trans hc2
      have h2 := h.chg hc d1.symm d2.symm
      have htab2 : s2[1]? = some tabS := (hc.at_ 1 (by omega)).trans htab
      (try walk_at "dl")
      generalize hf : v - 15 = f
      have hf1 : -15 ≤ f ∧ f ≤ 14 := by omega
      by_cases e : t.2 + f < 0
      · refine eout_rs (c := "InvalidPage") htab2 ?_ (by decide +kernel)
        refine rs_meth (fs := brF (.tup (ks.map kdD)) l) ?_
        (try walk_at "dl")
        refine ⟨_, insD_at h2.o, nf_turn, ?_⟩
        (try walk_at "dl")
        refine rs_mono (turn_no h2 (.inr (.inr (.inr ⟨f, rfl, by omega⟩)))) ?_
        rintro s3 rfl
        (try walk_at "dl")
        rw [decide_eq_true e]
        (try walk_at "dl")
        rw [eq_page]
        (try walk_at "dl")
        exact ⟨[], rfl, none_ hc (hb2.mono (by omega))⟩
      · refine eout_ok htab2 ?_
        (try walk_at "dl")
        rw [r_meth]
        (try walk_at "dl")
        rw [r_noFld (insD_at h2.o) nf_turn]
        (try walk_at "dl")
        refine turn_ok h2 (by omega) (by omega) ?_
        (try walk_at "dl")
        rw [decide_eq_false e]
        (try walk_at "dl")
        rw [same_vint]
        (try walk_at "dl")
        exact ⟨[(t.1, t.2 + f)], rfl, one_ hc (hb2.mono (by omega)) (by
          have q := near_turn hm hn (f := f) (by omega)
          exact ⟨q.1, q.2.1, Int.le_trans q.2.2 (by omega)⟩)⟩
    · rw [decide_eq_false e6]
      (try walk_at "dl")
      by_cases e7 : way = 6
      · rw [show (way == 6) = true from by rw [e7]; rfl]
        (try walk_at "dl")
        refine runs_mono (take_ok hb1 (by decide) (by omega)) ?_
        rintro _ s2 ⟨v, rfl, v0, v1, hb2, hc2⟩
        have hc := hc1.trans hc2
        have h2 := h.chg hc d1.symm d2.symm
        have htab2 : s2[1]? = some tabS := (hc.at_ 1 (by omega)).trans htab
        (try walk_at "dl")
        obtain ⟨odd, ho, hm'⟩ := pick5D (a := .non) (b := .bl true) (c := .int (0 - t.2 - 1)) (d := .int 1000000000000001) (e := .str "1") v0 v1
        rw [runs_eq ho]
        have hoff : Off (-t.2) (1000000000000000 - t.2) odd := by
          simp only [List.mem_cons, List.not_mem_nil, or_false] at hm'
          rcases hm' with rfl | rfl | rfl | rfl | rfl
          · exact .inl rfl
          · exact .inr (.inl ⟨_, rfl⟩)
          · exact .inr (.inr (.inr ⟨_, rfl, by omega⟩))
          · exact .inr (.inr (.inr ⟨_, rfl, by omega⟩))
          · exact .inr (.inr (.inl ⟨_, rfl⟩))
        (try walk_at "dl")
        refine eout_rs (c := "InvalidPage") htab2 ?_ (by decide +kernel)
        refine rs_meth (fs := brF (.tup (ks.map kdD)) l) ?_
        (try walk_at "dl")
        refine ⟨_, insD_at h2.o, nf_turn, ?_⟩
        (try walk_at "dl")
        refine rs_mono (turn_no h2 hoff) ?_
        rintro s3 rfl
        (try walk_at "dl")
        rw [eq_page]
        (try walk_at "dl")
        exact ⟨[], rfl, none_ hc (hb2.mono (by omega))⟩
      · rw [show (way == 6) = false from by rw [beq_eq_false_iff_ne]; exact e7]
        (try walk_at "dl")
        refine runs_mono (take_ok hb1 (by decide) (by omega)) ?_
        rintro _ s2 ⟨v, rfl, v0, v1, hb2, hc2⟩
        have hc := hc1.trans hc2
        have h2 := h.chg hc d1.symm d2.symm
        have htab2 : s2[1]? = some tabS := (hc.at_ 1 (by omega)).trans htab
        (try walk_at "dl")
        obtain ⟨odd, ho, hm'⟩ := pick6D (a := .non) (b := .bl true) (c := .int 0) (d := .int 1001) (e := .str "4") (f := .int (-1)) v0 v1
        rw [runs_eq ho]
        have hoff : NoSz ks odd := by
          have hk : ∀ k ∈ ks, 1 ≤ k.1 ∧ k.1 ≤ 60 := fun k hk => ⟨(hm.kd k hk).b0, (hm.kd k hk).b1⟩
          simp only [List.mem_cons, List.not_mem_nil, or_false] at hm'
          rcases hm' with rfl | rfl | rfl | rfl | rfl | rfl
          · exact .inl rfl
          · exact .inr (.inl ⟨_, rfl⟩)
          · exact .inr (.inr (.inr ⟨_, rfl, fun k hk' => by have := hk k hk'; omega⟩))
          · exact .inr (.inr (.inr ⟨_, rfl, fun k hk' => by have := hk k hk'; omega⟩))
          · exact .inr (.inr (.inl ⟨_, rfl⟩))
          · exact .inr (.inr (.inr ⟨_, rfl, fun k hk' => by have := hk k hk'; omega⟩))
        (try walk_at "dl")
        refine eout_rs (c := "NoSize") htab2 ?_ (by decide +kernel)
        refine rs_meth (fs := brF (.tup (ks.map kdD)) l) ?_
        (try walk_at "dl")
        refine ⟨_, insD_at h2.o, nf_choose, ?_⟩
        (try walk_at "dl")
        refine rs_mono (choose_no (os := []) h2 hm6 hn.1 (.inl rfl) hoff) ?_
        rintro s3 rfl
        (try walk_at "dl")
        rw [eq_size]
        (try walk_at "dl")
        obtain ⟨k0, rest, hk0⟩ : ∃ k0 rest, ks = k0 :: rest := by
          cases hk : ks with
          | nil => exact absurd hk hm.ne
          | cons a b => exact ⟨a, b, rfl⟩
        refine eout_rs (c := "NoSize") htab2 ?_ (by decide +kernel)
        refine rs_meth (fs := brF (.tup (ks.map kdD)) l) ?_
        (try walk_at "dl")
        refine ⟨_, insD_at h2.o, nf_choose, ?_⟩
        rw [show ks.map kdD = D.tup [.int k0.1, .int k0.2] :: rest.map kdD from by rw [hk0]; rfl]
        (try walk_at "dl")
        refine rs_mono (choose_no (os := [k0]) h2 hm6 hn.1 (.inr ⟨k0, rfl, by rw [hk0]; exact List.mem_cons_self⟩) hoff) ?_
        rintro s3 rfl
        (try walk_at "dl")
        rw [eq_size]
        (try walk_at "dl")
        refine ⟨[], rfl, ?_⟩
        rw [show D.tup [.int k0.1, .int k0.2] :: rest.map kdD = ks.map kdD from by rw [hk0]; rfl]
        exact none_ hc (hb2.mono (by omega))
end
/-! ### one turn of the law -/
abbrev tabL : Option Cell := some (.tab "law" "law.<locals>.<lambda>")
theorem ix_lastL {xs : List D} {d : D} : ixD (.lst (xs ++ [d])) (.int (-1)) = ret d := by
  funext s
  show (match L2.atI (xs ++ [d]) (-1) with | some d => R.ok d s | none => .no) = _
  rw [atI_last]
  rfl
/-- the end of a turn -/
def eTurn : En → M Fl := (sIf (bOr (bNot (toT (eVar 11))) (bNot (toT (eCall (aCons (eVar 8) (aCons (e2 ixD (eVar 9) (eNeg (eK (.int 1)))) (aCons (e2 subD (eCall (aCons (eVar 9) aNil) (on1 lenD)) (eK (.int 1))) aNil))) m_law_right)))) (sRet (eK (.bl false))) sNx)
theorem cut_undo {xs : List D} {x : D} : cutD (xs ++ [x]) none (some (if (((xs ++ [x]).length : Nat) : Int) - 1 > 1 then (((xs ++ [x]).length : Nat) : Int) - 1 else 1)) = (xs ++ [x]).take (max 1 xs.length) := by
  rw [List.length_append, List.length_singleton]
  rw [show (if ((xs.length + 1 : Nat) : Int) - 1 > 1 then ((xs.length + 1 : Nat) : Int) - 1 else 1) = ((max 1 xs.length : Nat) : Int) from by split <;> omega]
  exact cutD_pre
structure Hst (s : Sto) (n l nb : Nat) (ks : List Kdt) (X tt : Int) (hist : List Stt) : Prop where
  ne : hist ≠ []
  brw : Brw s n l (.tup (ks.map kdD)) (hist.map stD)
  near : ∀ u ∈ hist, Near ks X u
  bag : Bag s nb tt
  t0 : s[0]? = some tabL
  t1 : s[1]? = some tabS
theorem Near.mono {ks : List Kdt} {X Y : Int} {t : Stt} (h : Near ks X t) (k : X ≤ Y) : Near ks Y t := ⟨h.1, h.2.1, Int.le_trans h.2.2 k⟩
theorem turn1_ok {s : Sto} {n l nb : Nat} {ks : List Kdt} {X tt it : Int} {hist : List Stt} {sc : D} {y2 y3 y4 y5 y10 y11 y12 : Option D} (H : Hst s n l nb ks X tt hist) (hm : Menu 4 60 ks) (hb0 : tt < 4611686018410000000) (hz : hist.length ≤ 1000) (hX : X ≤ 9000000)
    (d1 : nb ≠ n) (d2 : nb ≠ l) (d3 : 2 ≤ nb) (d4 : 2 ≤ l) :
    runs (bd1_law [some sc, some (.loc nb), y2, y3, y4, y5, some (.tup (ks.map kdD)), some (.int it), some (.loc n), some (.lst (hist.map stD)), y10, y11, y12]) s fun fl s' =>
      ∃ hist' y10' y11' y12', fl = .nx [some sc, some (.loc nb), y2, y3, y4, y5, some (.tup (ks.map kdD)), some (.int it), some (.loc n), some (.lst (hist'.map stD)), y10', y11', y12'] ∧ Hst s' n l nb ks (X + 1000) (tt + 30) hist' ∧ hist'.length ≤ hist.length + 1 ∧
        s'.length = s.length ∧ ∀ m, m ≠ nb → m ≠ l → s'[m]? = s[m]? := by
  obtain ⟨hne, hB, hnr, hbag, h0, h1⟩ := H
  obtain ⟨pre, cur, rfl⟩ : ∃ pre cur, hist = pre ++ [cur] := ⟨hist.dropLast, hist.getLast hne, (List.dropLast_concat_getLast hne).symm⟩
  rw [List.length_append, List.length_singleton] at hz
  have hM : (pre ++ [cur]).map stD = pre.map stD ++ [stD cur] := by rw [List.map_append]; rfl
  rw [hM] at hB ⊢
  -- the end of a turn
  have fin : ∀ {s2 : Sto} {hist' : List Stt} {z10 z12 : Option D}, Hst s2 n l nb ks (X + 1000) (tt + 30) hist' → hist'.length ≤ pre.length + 1 + 1 → s2.length = s.length → (∀ m, m ≠ nb → m ≠ l → s2[m]? = s[m]?) →
      runs (eTurn [some sc, some (.loc nb), y2, y3, y4, y5, some (.tup (ks.map kdD)), some (.int it), some (.loc n), some (.lst (hist'.map stD)), z10, some (.bl true), z12]) s2 fun fl s' =>
        ∃ hist' y10' y11' y12', fl = .nx [some sc, some (.loc nb), y2, y3, y4, y5, some (.tup (ks.map kdD)), some (.int it), some (.loc n), some (.lst (hist'.map stD)), y10', y11', y12'] ∧ Hst s' n l nb ks (X + 1000) (tt + 30) hist' ∧ hist'.length ≤ (pre ++ [cur]).length + 1 ∧
        s'.length = s.length ∧ ∀ m, m ≠ nb → m ≠ l → s'[m]? = s[m]? := by
    intro s2 hist' z10 z12 H2 hl2 e1 e2
    obtain ⟨p2, c2, rfl⟩ : ∃ pre cur, hist' = pre ++ [cur] := ⟨hist'.dropLast, hist'.getLast H2.ne, (List.dropLast_concat_getLast H2.ne).symm⟩
    have hM2 : (p2 ++ [c2]).map stD = p2.map stD ++ [stD c2] := by rw [List.map_append]; rfl
    have hk := hm.kd _ (H2.near c2 (by simp)).1
    have hB2 := H2.brw
    rw [List.length_append, List.length_singleton] at hl2
    obtain ⟨d0, ds0, e0⟩ : ∃ d0 ds0, p2.map stD ++ [stD c2] = d0 :: ds0 := by
      cases hq : p2.map stD ++ [stD c2] with
      | nil => exact absurd hq (by simp)
      | cons a b => exact ⟨a, b, rfl⟩
    have el : p2.length + 1 = ds0.length + 1 := by
      have := congrArg List.length e0
      rw [List.length_append, List.length_map, List.length_singleton, List.length_cons] at this
      exact this
    unfold eTurn
    (try walk_at "dl")
    rw [hM2, ix_lastL]
    (try walk_at "dl")
    rw [p_len_lst, List.length_append, List.length_map, List.length_singleton]
    (try walk_at "dl")
    rw [show ((p2.length + 1 : Nat) : Int) - 1 = ((ds0.length : Nat) : Int) from by omega]
    rw [hM2, e0] at hB2
    refine runs_mono (right_ok hB2 e0.symm (hk.mono (by omega)) (by omega)) ?_
    rintro _ s3 ⟨rfl, rfl⟩
    (try walk_at "dl")
    exact ⟨p2 ++ [c2], _, _, _, by rw [hM2], H2, by simp; omega, e1, e2⟩
  unfold bd1_law
  rw [show (sIf (bOr (bNot (toT (eVar 11))) (bNot (toT (eCall (aCons (eVar 8) (aCons (e2 ixD (eVar 9) (eNeg (eK (.int 1)))) (aCons (e2 subD (eCall (aCons (eVar 9) aNil) (on1 lenD)) (eK (.int 1))) aNil))) m_law_right)))) (sRet (eK (.bl false))) sNx) = eTurn from rfl]
  (try walk_at "dl")
  refine runs_mono (take_ok hbag (by decide) (by omega)) ?_
  rintro _ s1 ⟨v, rfl, v0, v1, hb1, hc1⟩
  have hB1 := hB.chg hc1 d1.symm d2.symm
  have h01 : s1[0]? = some tabL := (hc1.at_ 0 (by omega)).trans h0
  have h11 : s1[1]? = some tabS := (hc1.at_ 1 (by omega)).trans h1
  have hcur : Near ks X cur := hnr cur (by simp)
  (try walk_at "dl")
  by_cases ev : v = 0
  · rw [show (v == 0) = true from by rw [ev]; rfl]
    (try walk_at "dl")
    rw [p_len_lst, List.length_append, List.length_map, List.length_singleton]
    (try walk_at "dl")
    by_cases ep : pre = []
    · subst ep
      rw [show decide ((1 : Int) < ((([] : List Stt).length + 1 : Nat) : Int)) = false from rfl]
      (try walk_at "dl")
      refine eout_rs (c := "NothingToUndo") h01 ?_ (by decide +kernel)
      refine rs_meth (fs := brF (.tup (ks.map kdD)) l) ?_
      (try walk_at "dl")
      refine ⟨_, insD_at hB1.o, nf_undo, ?_⟩
      (try walk_at "dl")
      refine rs_mono (undo_no hB1) ?_
      rintro s3 rfl
      (try walk_at "dl")
      rw [same_ntu]
      (try walk_at "dl")
      rw [p_len_lst]
      (try walk_at "dl")
      rw [cut_undo]
      exact fin (hist' := [cur]) ⟨by simp, hB1, fun u hu => (hnr u hu).mono (by omega), hb1.mono (by omega), h01, h11⟩ (by simp) hc1.len (fun m q1 _ => hc1.at_ m q1)
    · obtain ⟨p2, c2, rfl⟩ : ∃ p c, pre = p ++ [c] := ⟨pre.dropLast, pre.getLast ep, (List.dropLast_concat_getLast ep).symm⟩
      have hM2 : (p2 ++ [c2]).map stD = p2.map stD ++ [stD c2] := by rw [List.map_append]; rfl
      rw [show decide ((1 : Int) < (((p2 ++ [c2]).length + 1 : Nat) : Int)) = true from decide_eq_true (by rw [List.length_append, List.length_singleton]; omega)]
      (try walk_at "dl")
      refine eout_ok h01 ?_
      (try walk_at "dl")
      rw [r_meth]
      (try walk_at "dl")
      rw [r_noFld (insD_at hB1.o) nf_undo]
      (try walk_at "dl")
      rw [hM2] at hB1 ⊢
      refine undo_ok hB1 ?_
      (try walk_at "dl")
      rw [same_vnon]
      (try walk_at "dl")
      rw [p_len_lst]
      (try walk_at "dl")
      rw [cut_undo, List.length_append, List.length_map, List.length_singleton, List.take_append_of_le_length (by rw [List.length_append, List.length_map, List.length_singleton]; omega)]
      rw [show List.take (max 1 (p2.length + 1)) (p2.map stD ++ [stD c2]) = (p2 ++ [c2]).map stD from by rw [hM2]; exact List.take_of_length_le (by rw [List.length_append, List.length_map, List.length_singleton]; omega)]
      have hB3 := hB1.put (p2.map stD ++ [stD c2])
      rw [← hM2] at hB3 ⊢
      refine fin (hist' := p2 ++ [c2]) ⟨by simp, hB3, fun u hu => (hnr u (List.mem_append_left _ hu)).mono (by omega), (hb1.keep (Chg.set l _ _).two d2).mono (by omega), (List.getElem?_set_ne (by omega)).trans h01, (List.getElem?_set_ne (by omega)).trans h11⟩ (by simp) (List.length_set.trans hc1.len) (fun m q1 q2 => (List.getElem?_set_ne (Ne.symm q2)).trans (hc1.at_ m q1))
  · rw [show (v == 0) = false from by rw [beq_eq_false_iff_ne]; exact ev]
    (try walk_at "dl")
    rw [ix_lastL]
    (try walk_at "dl")
    refine runs_mono (step_ok hb1 (by omega) hB1 hm (by rw [List.length_map]; omega) hcur (by omega) h11 d1 d2 d3 d4) ?_
    rintro _ s2 ⟨add, rfl, ha, hB2, hb2, hl2, he2⟩
    have e3 : pre.map stD ++ [stD cur] ++ add.map stD = (pre ++ [cur] ++ add).map stD := by rw [List.map_append, List.map_append]; rfl
    (try walk_at "dl")
    rw [p_add_lst (sz_small (by
      rw [List.length_append, List.length_append, List.length_map, List.length_map, List.length_singleton]
      rcases ha with rfl | ⟨u, rfl, _⟩ <;> simp <;> omega))]
    (try walk_at "dl")
    rw [e3] at hB2 ⊢
    refine fin (hist' := pre ++ [cur] ++ add) ⟨by simp, hB2, fun u hu => ?_, hb2.mono (by omega), (he2 0 (by omega) (by omega)).trans h01, (he2 1 (by omega) (by omega)).trans h11⟩ ?_ (hl2.trans hc1.len) (fun m q1 q2 => (he2 m q1 q2).trans (hc1.at_ m q1))
    · rcases List.mem_append.mp hu with hu | hu
      · exact (hnr u hu).mono (by omega)
      · rcases ha with rfl | ⟨u', rfl, hn'⟩
        · cases hu
        · have : u = u' := by simpa using hu
          rw [this]; exact hn'
    · rcases ha with rfl | ⟨u', rfl, _⟩ <;> simp
/-! ### the law -/
theorem eqv_st (t : Stt) : eqv (stD t) (stD t) = true := by
  have := eqv_menu (ks := [t.1, (t.2, 0)]) (hs := [t.1, (t.2, 0)])
  show (eqv (kdD t.1) (kdD t.1) && (eqv (.int t.2) (.int t.2) && true)) = true
  have e1 : eqv (.tup ([t.1].map kdD)) (.tup ([t.1].map kdD)) = true := by rw [eqv_menu]; exact decide_eq_true rfl
  have e2 : (eqv (kdD t.1) (kdD t.1) && true) = true := e1
  have e3 : eqv (.int t.2) (.int t.2) = true := by
    show (t.2 == t.2) = true
    exact beq_self_eq_true _
  rw [Bool.and_true] at e2
  rw [e2, e3]; rfl
theorem menu61 {ks : List Kdt} (hm : Menu 4 60 ks) : Menu 6 1000 (ks ++ [((61, 0) : Kdt)]) := by
  refine ⟨by simp, by rw [List.length_append, List.length_singleton]; have := hm.len; omega, fun k hk => ?_, ?_⟩
  · rcases List.mem_append.mp hk with hk | hk
    · exact (hm.kd k hk).mono (by omega)
    · have : k = ((61, 0) : Kdt) := by simpa using hk
      rw [this]; exact ⟨by decide, by decide, by decide, by decide⟩
  · rw [List.pairwise_append]
    refine ⟨hm.asc, by simp, fun a ha b hb => ?_⟩
    have : b = ((61, 0) : Kdt) := by simpa using hb
    rw [this]
    have := (hm.kd a ha).b1
    show a.1 < 61
    omega
theorem ix_kd0 {k : Kdt} : ixD (kdD k) (.int 0) = ret (.int k.1) := rfl
theorem ix_st0 {t : Stt} : ixD (stD t) (.int 0) = ret (kdD t.1) := rfl
theorem ix_st1 {t : Stt} : ixD (stD t) (.int 1) = ret (.int t.2) := rfl
theorem bag_ok {sc : D} {s : Sto} {nb : Nat} {T : Int} {ρ : En} (hbag : Bag s nb T) (hT : T ≤ 62000) (h0 : s[0]? = some tabL) (h1 : s[1]? = some tabS) (hnb : 2 ≤ nb) {y3 y4 y5 y6 y7 y8 y9 y10 y11 y12 : Option D} :
    runs (bd2_law [some sc, some (.loc nb), none, y3, y4, y5, y6, y7, y8, y9, y10, y11, y12]) s fun fl s' => ∃ y3 y4 y5 y6 y7 y8 y9 y10 y11 y12, fl = .nx [some sc, some (.loc nb), none, y3, y4, y5, y6, y7, y8, y9, y10, y11, y12] ∧ Chg2 nb s s' := by
  have hlt := hbag.lt
  have hl1 : 2 ≤ s.length := by omega
  unfold bd2_law
  (try walk_at "dl")
  refine runs_mono (menu_ok (many := 4) hbag (by decide) (by decide) (by omega)) ?_
  rintro _ s1 ⟨ks, rfl, hm, hb1, hc1⟩
  have hm6 := hm.mono (m2 := 6) (t2 := 1000) (by omega) (by omega)
  obtain ⟨k0, rest, hk0⟩ : ∃ k0 rest, ks = k0 :: rest := by
    cases hk : ks with
    | nil => exact absurd hk hm.ne
    | cons a b => exact ⟨a, b, rfl⟩
  have hk0m : k0 ∈ ks := by rw [hk0]; exact List.mem_cons_self
  have hix : ixD (.tup (ks.map kdD)) (.int 0) = ret (kdD k0) := p_ix_tnat (n := 0) (by rw [hk0]; rfl)
  have kk0 := hm.kd _ hk0m
  have k0b0 := kk0.b0
  have k0b1 := kk0.b1
  (try walk_at "dl")
  refine runs_mono (take_ok hb1 (by decide) (by omega)) ?_
  rintro _ s2 ⟨it, rfl, i0, i1, hb2, hc2⟩
  have hc02 := hc1.trans hc2.two
  have i1' : it < 1000000 := i1
  (try walk_at "dl")
  rw [r_makeK]
  (try walk_at "dl")
  rw [if_pos (by rfl), show ([.tup (ks.map kdD)] ++ [.int it] : List D) = [.tup (ks.map kdD), .int it] from rfl]
  refine make_ok hm6 hk0 (by omega) fun s3 hB3 hx3 hl3 => ?_
  have hl2 : s.length ≤ s2.length := hc02.len
  generalize hN : s2.length = N at hB3 hx3 hl3
  have hb3 := hx3.bag hb2
  have hx3c := hx3.chg nb
  have hc03 := hc02.trans hx3c
  (try walk_at "dl")
  rw [hix]
  (try walk_at "dl")
  rw [hix]
  (try walk_at "dl")
  rw [ix_kd0]
  (try walk_at "dl")
  rw [show D.tup [kdD k0, .int (it / k0.1)] = stD (k0, it / k0.1) from rfl, p_range1_int (smI_of (by decide))]
  (try walk_at "dl")
  have hN2 : 2 ≤ N := by omega
  have dN : nb < N := by omega
  have h03 : s3[0]? = some tabL := (hc03.at_ 0 (by omega) (by omega)).trans h0
  have h13 : s3[1]? = some tabS := (hc03.at_ 1 (by omega) (by omega)).trans h1
  have hst : Near ks 1000100 (k0, it / k0.1) := by
    have q1 := Int.ediv_nonneg (show 0 ≤ it from i0) (show (0 : Int) ≤ k0.1 by omega)
    have q2 := div_le (x := it) (a := k0.1) (by omega)
    refine ⟨hk0m, q1, ?_⟩
    show (it / k0.1 + 1) * k0.1 ≤ 1000100
    rw [Int.add_mul, Int.one_mul]
    omega
  refine runs_for (fun i ρ s' => ∃ hist y3 y10 y11 y12, ρ = [some sc, some (.loc nb), none, y3, y4, y5, some (.tup (ks.map kdD)), some (.int it), some (.loc N), some (.lst (hist.map stD)), y10, y11, y12] ∧
      Hst s' N (N + 1) nb ks (1000100 + 1000 * (i : Int)) (62101 + 30 * (i : Int)) hist ∧ hist.length ≤ i + 1 ∧ s'.length = s3.length ∧ ∀ m, m ≠ nb → m ≠ N + 1 → s'[m]? = s3[m]?)
      ⟨[(k0, it / k0.1)], _, _, _, _, rfl, ⟨by simp, hB3, fun u hu => ?_, hb3.mono (by omega), h03, h13⟩, by simp, rfl, fun _ _ _ => rfl⟩ ?_ ?_
  · have : u = (k0, it / k0.1) := by simpa using hu
    rw [this]
    exact hst.mono (by omega)
  · rintro i d ρ s4 hi ⟨hist, y3, y10, y11, y12, rfl, H, hl, e1, e2⟩
    have hi2 : i < 40 := by
      have := (List.getElem?_eq_some_iff.mp hi).1
      rw [rgD_len] at this
      exact this
    simp only [r_fbody, r_gn, r_km, List.set_cons_succ, List.set_cons_zero]
    refine runs_mono (turn1_ok H hm (by omega) (by omega) (by omega) (by omega) (by omega) hnb (by omega)) ?_
    rintro _ s5 ⟨hist', y10', y11', y12', rfl, H', hl', e1', e2'⟩
    refine ⟨_, rfl, hist', _, _, _, _, rfl, ⟨H'.ne, H'.brw, fun u hu => (H'.near u hu).mono (by omega), H'.bag.mono (by omega), H'.t0, H'.t1⟩, by omega, e1'.trans e1, fun m q1 q2 => (e2' m q1 q2).trans (e2 m q1 q2)⟩
  · rintro ρ s4 ⟨hist, y3, y10, y11, y12, rfl, H, hl, e1, e2⟩
    rw [rgD_len] at H hl
    have hN : s4.length = N + 2 := by omega
    obtain ⟨pre, cur, rfl⟩ : ∃ pre cur, hist = pre ++ [cur] := ⟨hist.dropLast, hist.getLast H.ne, (List.dropLast_concat_getLast H.ne).symm⟩
    have hM : (pre ++ [cur]).map stD = pre.map stD ++ [stD cur] := by rw [List.map_append]; rfl
    have hcur := (H.near cur (by simp)).mono (Y := 2000000) (by
      show (1000100 : Int) + 1000 * ((40 : Int).toNat : Nat) ≤ 2000000
      decide)
    have hB4 := H.brw
    rw [hM] at hB4
    have kc := hm.kd _ hcur.1
    have c0 := hcur.2.1
    have cb0 := kc.b0
    have cb1 := kc.b1
    have cX := hcur.2.2
    have cP := near_page hm hcur
    have hmul : 0 ≤ cur.1.1 * cur.2 ∧ cur.1.1 * cur.2 ≤ 2000000 := by
      rw [Int.add_mul, Int.one_mul, Int.mul_comm] at cX
      exact ⟨Int.mul_nonneg (by omega) c0, by omega⟩
    (try walk_at "dl")
    rw [hM, r_makeK]
    (try walk_at "dl")
    rw [ix_lastL]
    (try walk_at "dl")
    rw [ix_st0]
    (try walk_at "dl")
    rw [ix_kd0]
    (try walk_at "dl")
    rw [ix_lastL]
    (try walk_at "dl")
    rw [ix_st1]
    (try walk_at "dl")
    rw [if_pos (by rfl), show ([.tup (ks.map kdD)] ++ [.int (cur.1.1 * cur.2)] : List D) = [.tup (ks.map kdD), .int (cur.1.1 * cur.2)] from rfl]
    refine make_ok hm6 hk0 (by omega) fun s5 hB5 hx5 hl5 => ?_
    rw [hN] at hB5 hl5 ⊢
    have hR5 : Brw s5 N (N + 1) (.tup (ks.map kdD)) (pre.map stD ++ [stD cur]) := ⟨(hx5.at_ N (by omega)).trans hB4.o, (hx5.at_ (N + 1) (by omega)).trans hB4.c⟩
    have hb5 := hx5.bag H.bag
    (try walk_at "dl")
    rw [r_meth]
    (try walk_at "dl")
    rw [r_noFld (insD_at hB5.o) nf_choose]
    (try walk_at "dl")
    rw [ix_lastL]
    (try walk_at "dl")
    rw [ix_st0]
    (try walk_at "dl")
    rw [ix_kd0]
    (try walk_at "dl")
    refine choose_ok (ds := []) (os := [cur.1]) (t := (k0, cur.1.1 * cur.2 / k0.1)) hB5 hm6 hk0m (fun o ho => by
      have : o = cur.1 := by simpa using ho
      rw [this]; exact hcur.1) (by decide) (by simp) ?_
    rw [show [cur.1].foldl chF (k0, cur.1.1 * cur.2 / k0.1) = (cur.1, (cur.1.1 * cur.2 / k0.1 * k0.1 + k0.2) / cur.1.1) from rfl]
    generalize (cur.1.1 * cur.2 / k0.1 * k0.1 + k0.2) / cur.1.1 = q
    have hB6 := hB5.put ([] ++ [stD (k0, cur.1.1 * cur.2 / k0.1)] ++ [stD (cur.1, q)])
    have hR6 : Brw (s5.set (N + 2 + 1) (some (.lst ([] ++ [stD (k0, cur.1.1 * cur.2 / k0.1)] ++ [stD (cur.1, q)])))) N (N + 1) (.tup (ks.map kdD)) (pre.map stD ++ [stD cur]) := ⟨(List.getElem?_set_ne (by omega)).trans hR5.o, (List.getElem?_set_ne (by omega)).trans hR5.c⟩
    have hb6 := hb5.keep (Chg.set (N + 2 + 1) s5 (some (.lst ([] ++ [stD (k0, cur.1.1 * cur.2 / k0.1)] ++ [stD (cur.1, q)])))).two (by omega)
    have hx6 : Ext s4 (s5.set (N + 2 + 1) (some (.lst ([] ++ [stD (k0, cur.1.1 * cur.2 / k0.1)] ++ [stD (cur.1, q)])))) := hx5.set (by omega) _
    generalize s5.set (N + 2 + 1) (some (.lst ([] ++ [stD (k0, cur.1.1 * cur.2 / k0.1)] ++ [stD (cur.1, q)]))) = s6 at hB6 hR6 hb6 hx6 ⊢
    (try walk_at "dl")
    rw [r_meth]
    (try walk_at "dl")
    rw [r_noFld (insD_at hB6.o) nf_turn]
    (try walk_at "dl")
    rw [ix_lastL]
    (try walk_at "dl")
    rw [ix_st1]
    (try walk_at "dl")
    rw [r_prop]
    (try walk_at "dl")
    rw [r_isIns (insD_at hB6.o)]
    (try walk_at "dl")
    rw [r_noEr, page_eq hB6]
    (try walk_at "dl")
    refine turn_ok (t := (cur.1, q)) hB6 (by
      show 0 ≤ q + (cur.2 - q) ∧ q + (cur.2 - q) ≤ 1000000000000000
      omega) (by simp) ?_
    rw [show ((cur.1, q).1, (cur.1, q).2 + (cur.2 - q)) = cur from by
      show (cur.1, q + (cur.2 - q)) = cur
      rw [show q + (cur.2 - q) = cur.2 from by omega]]
    have hB7 := hB6.put ([] ++ [stD (k0, cur.1.1 * cur.2 / k0.1)] ++ [stD (cur.1, q)] ++ [stD cur])
    have hR7 : Brw (s6.set (N + 2 + 1) (some (.lst ([] ++ [stD (k0, cur.1.1 * cur.2 / k0.1)] ++ [stD (cur.1, q)] ++ [stD cur])))) N (N + 1) (.tup (ks.map kdD)) (pre.map stD ++ [stD cur]) := ⟨(List.getElem?_set_ne (by omega)).trans hR6.o, (List.getElem?_set_ne (by omega)).trans hR6.c⟩
    have hb7 := hb6.keep (Chg.set (N + 2 + 1) s6 (some (.lst ([] ++ [stD (k0, cur.1.1 * cur.2 / k0.1)] ++ [stD (cur.1, q)] ++ [stD cur])))).two (by omega)
    have hx7 : Ext s4 (s6.set (N + 2 + 1) (some (.lst ([] ++ [stD (k0, cur.1.1 * cur.2 / k0.1)] ++ [stD (cur.1, q)] ++ [stD cur])))) := hx6.set (by omega) _
    generalize s6.set (N + 2 + 1) (some (.lst ([] ++ [stD (k0, cur.1.1 * cur.2 / k0.1)] ++ [stD (cur.1, q)] ++ [stD cur]))) = s7 at hB7 hR7 hb7 hx7 ⊢
    (try walk_at "dl")
    rw [r_eqO (insD_at hB7.o) (.inl ⟨_, insD_at hR7.o⟩) (eq_run hB7 hR7), eqv_st, decide_eq_true rfl]
    (try walk_at "dl")
    rw [ix_lastL]
    (try walk_at "dl")
    rw [show stD cur = .tup [kdD cur.1, .int cur.2] from rfl, r_eqO (insD_at hR7.o) (.inr ⟨_, rfl⟩) (eq_tup hR7)]
    (try walk_at "dl")
    rw [r_makeK]
    (try walk_at "dl")
    rw [show ([D.tup [.int 61, .int 0]] : List D) = [((61, 0) : Kdt)].map kdD from rfl, p_add_tup (by rw [List.length_append, List.length_map]; have := hm.len; simp; omega), ← List.map_append]
    (try walk_at "dl")
    rw [if_pos (by rfl), show ([.tup ((ks ++ [((61, 0) : Kdt)]).map kdD)] ++ [.int it] : List D) = [.tup ((ks ++ [((61, 0) : Kdt)]).map kdD), .int it] from rfl]
    refine make_ok (menu61 hm) (k0 := k0) (rest := rest ++ [((61, 0) : Kdt)]) (by rw [hk0]; rfl) (by omega) fun s8 hB8 hx8 hl8 => ?_
    have hl7 := hx7.len
    have hR8 : Brw s8 N (N + 1) (.tup (ks.map kdD)) (pre.map stD ++ [stD cur]) := ⟨(hx8.at_ N (by omega)).trans hR7.o, (hx8.at_ (N + 1) (by omega)).trans hR7.c⟩
    have hb8 := hx8.bag hb7
    have hx8' := hx7.trans hx8
    (try walk_at "dl")
    rw [r_eqO (insD_at hR8.o) (.inl ⟨_, insD_at hB8.o⟩) (eq_run (es := []) hR8 hB8), decide_eq_false (by
      intro h
      have := congrArg List.length h
      rw [List.length_append, List.length_singleton] at this
      omega), Bool.false_and]
    (try walk_at "dl")
    refine runs_mono (take_ok hb8 (by decide) (by
      show (62101 : Int) + 30 * ((40 : Int).toNat : Nat) < 4611686018427387904
      decide)) ?_
    rintro _ s9 ⟨z, rfl, z0, z1, hb9, hc9⟩
    (try walk_at "dl")
    generalize hsz : 2 + z = S
    have hS : 2 ≤ S ∧ S ≤ 51 := by omega
    rw [r_cmeth]
    (try walk_at "dl")
    refine middle_ok (a := S) (b := 1) (by omega) (by decide) (by omega) fun s10 hB10 hx10 hl10 => ?_
    (try walk_at "dl")
    rw [show dfl [.int 0] (mkIns "Browser" m_Browser___init__) [D.tup [D.tup [D.int 1, D.int 0], D.tup [D.int S, D.int (S / 2)]]] = mkIns "Browser" m_Browser___init__ [.tup ([((1, 0) : Kdt), (S, S / 2)].map kdD), .int 0] from rfl]
    rw [show (1 : Int) / 2 = 0 from rfl] at hB10
    refine make_ok (ks := [((1, 0) : Kdt), (S, S / 2)]) (k0 := (1, 0)) (rest := [(S, S / 2)]) ⟨by simp, by simp, fun k hk => ?_, by simp; show (1 : Int) < S; omega⟩ rfl (by omega) fun s11 hB11 hx11 hl11 => ?_
    · simp only [List.mem_cons, List.not_mem_nil, or_false] at hk
      rcases hk with rfl | rfl
      · exact ⟨by decide, by decide, by decide, by decide⟩
      · exact ⟨by show 1 ≤ S; omega, by show S ≤ 1000; omega, by show 0 ≤ S / 2; omega, by show S / 2 < S; omega⟩
    have hM11 : Brw s11 s9.length (s9.length + 1) (.tup ([((1, 0) : Kdt), (S, S / 2)].map kdD)) [stD ((1, 0), 0)] := ⟨(hx11.at_ _ (by omega)).trans hB10.o, (hx11.at_ _ (by omega)).trans hB10.c⟩
    rw [show ((0 : Int) / ((1, 0) : Kdt).1) = 0 from rfl] at hB11
    (try walk_at "dl")
    rw [r_eqO (insD_at hM11.o) (.inl ⟨_, insD_at hB11.o⟩) (eq_run (ds := []) (es := []) hM11 hB11), eqv_st, decide_eq_true rfl]
    (try walk_at "dl")
    have hc04 : Chg2 nb s s4 := ⟨by have := hc03.len; omega, fun m m1 m2 => (e2 m m1 (by omega)).trans (hc03.at_ m m1 m2)⟩
    exact ⟨_, _, _, _, _, _, _, _, _, _, rfl, (((hc04.trans (hx8'.chg nb)).trans hc9.two).trans (hx10.chg nb)).trans (hx11.chg nb)⟩
theorem law_true (ns : List Int) (hn : ns.length ≤ 63) : ∃ s, m_law [scriptD ns] [some (.tab "law" "law.<locals>.<lambda>"), some (.tab "_law_step" "_law_step.<locals>.<lambda>")] = .ok (.bl true) s := by
  suffices H : runs (m_law [scriptD ns]) [tabL, tabS] fun d _ => d = .bl true by
    obtain ⟨d, s, e, rfl⟩ := H
    exact ⟨s, e⟩
  unfold m_law fb_law
  (try walk_at "dl")
  refine runs_mono (bagsO_ok hn 5 [tabL, tabS]) ?_
  rintro d s1 ⟨k, rfl, hb, hL⟩
  generalize scriptD ns = sc
  (try walk_at "dl")
  refine runs_bagsO (s0 := [tabL, tabS]) (fun ρ => ∃ x1 y3 y4 y5 y6 y7 y8 y9 y10 y11 y12, ρ = [some sc, x1, none, y3, y4, y5, y6, y7, y8, y9, y10, y11, y12]) hb ⟨_, _, _, _, _, _, _, _, _, _, _, rfl⟩ hL ?_ ?_
  · rintro n ρ s hn2 h0 ⟨x1, y3, y4, y5, y6, y7, y8, y9, y10, y11, y12, rfl⟩ hbag
    simp only [r_fbody, r_gn, r_km, List.set_cons_succ, List.set_cons_zero]
    refine runs_mono (bag_ok (ρ := []) hbag (by decide) (h0 0 (by decide)) (h0 1 (by decide)) hn2) ?_
    rintro _ s' ⟨y3, y4, y5, y6, y7, y8, y9, y10, y11, y12, rfl, hc⟩
    exact ⟨_, rfl, ⟨_, _, _, _, _, _, _, _, _, _, _, rfl⟩, hc⟩
  · rintro ρ s h0 ⟨x1, y3, y4, y5, y6, y7, y8, y9, y10, y11, y12, rfl⟩
    (try walk_at "dl")
    rw [r_cmeth]
    (try walk_at "dl")
    refine middle_ok (a := 10) (b := 4) (by decide) (by decide) (by decide) fun s2 hB2 hx2 hl2 => ?_
    have hm : Menu 6 1000 [((4, 2) : Kdt), (10, 5)] := by
      refine ⟨by simp, by simp, fun k hk => ?_, by simp⟩
      simp only [List.mem_cons, List.not_mem_nil, or_false] at hk
      rcases hk with rfl | rfl <;> exact ⟨by decide, by decide, by decide, by decide⟩
    have hB2' : Brw s2 s.length (s.length + 1) (.tup ([((4, 2) : Kdt), (10, 5)].map kdD)) ([] ++ [stD ((4, 2), 0)]) := hB2
    (try walk_at "dl")
    rw [r_meth]
    (try walk_at "dl")
    rw [r_noFld (insD_at hB2'.o) nf_choose]
    (try walk_at "dl")
    refine choose_ok (ds := []) (os := [((10, 5) : Kdt), (4, 2)]) (t := ((4, 2), 0)) hB2' hm (by simp) (by simp) (by decide) (by simp) ?_
    have hB3 : Brw (s2.set (s.length + 1) (some (.lst ([] ++ [stD ((4, 2), 0)] ++ [stD (([((10, 5) : Kdt), (4, 2)]).foldl chF ((4, 2), 0))])))) s.length (s.length + 1) (.tup ([((4, 2) : Kdt), (10, 5)].map kdD)) ([stD ((4, 2), 0)] ++ [stD ((4, 2), 1)]) := hB2'.put _
    generalize s2.set (s.length + 1) (some (.lst ([] ++ [stD ((4, 2), 0)] ++ [stD (([((10, 5) : Kdt), (4, 2)]).foldl chF ((4, 2), 0))]))) = s3 at hB3 ⊢
    rw [show (([((10, 5) : Kdt), (4, 2)]).foldl chF ((4, 2), 0)).2 = 1 from rfl]
    have k4 : Kd 1000 4 2 := ⟨by decide, by decide, by decide, by decide⟩
    (try walk_at "dl")
    rw [r_prop]
    (try walk_at "dl")
    rw [r_isIns (insD_at hB3.o)]
    (try walk_at "dl")
    rw [r_noEr, anchor_eq hB3 k4]
    (try walk_at "dl")
    rw [r_inO (insD_at hB3.o) (b := true) (in_ok hB3 k4 (by decide) (by decide) ⟨rfl, rfl⟩)]
    (try walk_at "dl")

end Law
end DL
namespace DL
namespace Law
open PySem PySem.Spec PyProof.Rows L2
/-! ### the text -/
def topS (i : Nat) : Stmt := PySem.Challenge.pw_pageanchors_k20_browsers_step_by_step.main.body.getD i (.Pass ⟨0, 0, 0, 0⟩)
abbrev st_in_range : Stmt := topS 14
theorem sc_in_range : FnScope ["value", "low", "high"] ["value", "low", "high"] (defScope st_in_range) := ⟨rfl, rfl, rfl, by decide +kernel, rfl, by decide +kernel, by decide +kernel⟩
abbrev st_Browser___contains__ : Stmt := inClass (topS 24) 9
theorem sc_Browser___contains__ : FnScope ["self", "item", "first"] ["self", "item"] (defScope st_Browser___contains__) := ⟨rfl, rfl, rfl, by decide +kernel, rfl, by decide +kernel, by decide +kernel⟩
abbrev st_Browser___eq__ : Stmt := inClass (topS 24) 11
theorem sc_Browser___eq__ : FnScope ["self", "other"] ["self", "other"] (defScope st_Browser___eq__) := ⟨rfl, rfl, rfl, by decide +kernel, rfl, by decide +kernel, by decide +kernel⟩
abbrev st_is_kind : Stmt := topS 15
theorem sc_is_kind : FnScope ["value"] ["value"] (defScope st_is_kind) := ⟨rfl, rfl, rfl, by decide +kernel, rfl, by decide +kernel, by decide +kernel⟩
abbrev st_is_menu : Stmt := topS 16
theorem sc_is_menu : FnScope ["value", "kind", "later"] ["value"] (defScope st_is_menu) := ⟨rfl, rfl, rfl, by decide +kernel, rfl, by decide +kernel, by decide +kernel⟩
abbrev st_check_menu : Stmt := topS 17
theorem sc_check_menu : FnScope ["value"] ["value"] (defScope st_check_menu) := ⟨rfl, rfl, rfl, by decide +kernel, rfl, by decide +kernel, by decide +kernel⟩
abbrev st_Browser___init__ : Stmt := inClass (topS 24) 1
theorem sc_Browser___init__ : FnScope ["self", "menu", "item"] ["self", "menu", "item"] (defScope st_Browser___init__) := ⟨rfl, rfl, rfl, by decide +kernel, rfl, by decide +kernel, by decide +kernel⟩
abbrev st_Browser_anchor : Stmt := inClass (topS 24) 8
theorem sc_Browser_anchor : FnScope ["self"] ["self"] (defScope st_Browser_anchor) := ⟨rfl, rfl, rfl, by decide +kernel, rfl, by decide +kernel, by decide +kernel⟩
abbrev st_changed : Stmt := topS 20
theorem sc_changed : FnScope ["first", "page", "second"] ["first", "page", "second"] (defScope st_changed) := ⟨rfl, rfl, rfl, by decide +kernel, rfl, by decide +kernel, by decide +kernel⟩
abbrev st_kind_on : Stmt := topS 22
theorem sc_kind_on : FnScope ["menu", "size", "kind"] ["menu", "size"] (defScope st_kind_on) := ⟨rfl, rfl, rfl, by decide +kernel, rfl, by decide +kernel, by decide +kernel⟩
abbrev st_Browser_choose : Stmt := inClass (topS 24) 3
theorem sc_Browser_choose : FnScope ["self", "sizes", "size", "kind", "page", "other"] ["self", "sizes"] (defScope st_Browser_choose) := ⟨rfl, rfl, rfl, by decide +kernel, rfl, by decide +kernel, by decide +kernel⟩
abbrev st_check_number : Stmt := topS 18
theorem sc_check_number : FnScope ["value", "low", "high"] ["value", "low", "high"] (defScope st_check_number) := ⟨rfl, rfl, rfl, by decide +kernel, rfl, by decide +kernel, by decide +kernel⟩
abbrev st_kind_of : Stmt := topS 19
theorem sc_kind_of : FnScope ["size", "anchor"] ["size", "anchor"] (defScope st_kind_of) := ⟨rfl, rfl, rfl, by decide +kernel, rfl, by decide +kernel, by decide +kernel⟩
abbrev st_Browser_middle : Stmt := inClass (topS 24) 2
theorem sc_Browser_middle : FnScope ["cls", "sizes", "kinds", "size", "at", "kind"] ["cls", "sizes"] (defScope st_Browser_middle) := ⟨rfl, rfl, rfl, by decide +kernel, rfl, by decide +kernel, by decide +kernel⟩
abbrev st_Browser_page : Stmt := inClass (topS 24) 7
theorem sc_Browser_page : FnScope ["self"] ["self"] (defScope st_Browser_page) := ⟨rfl, rfl, rfl, by decide +kernel, rfl, by decide +kernel, by decide +kernel⟩
abbrev st_Browser_turn : Stmt := inClass (topS 24) 4
theorem sc_Browser_turn : FnScope ["self", "pages", "kind", "page"] ["self", "pages"] (defScope st_Browser_turn) := ⟨rfl, rfl, rfl, by decide +kernel, rfl, by decide +kernel, by decide +kernel⟩
abbrev st_Browser_undo : Stmt := inClass (topS 24) 5
theorem sc_Browser_undo : FnScope ["self"] ["self"] (defScope st_Browser_undo) := ⟨rfl, rfl, rfl, by decide +kernel, rfl, by decide +kernel, by decide +kernel⟩
abbrev st_law_well : Stmt := topS 26
theorem sc_law_well : FnScope ["cell", "turn"] ["cell", "turn"] (defScope st_law_well) := ⟨rfl, rfl, rfl, by decide +kernel, rfl, by decide +kernel, by decide +kernel⟩
abbrev st_law_bags : Stmt := topS 28
theorem sc_law_bags : FnScope ["script", "most", "k", "cell"] ["script", "most"] (defScope st_law_bags) := ⟨rfl, rfl, rfl, by decide +kernel, rfl, by decide +kernel, by decide +kernel⟩
abbrev st_law_take : Stmt := topS 27
theorem sc_law_take : FnScope ["bag", "many", "p", "n", "found"] ["bag", "many"] (defScope st_law_take) := ⟨rfl, rfl, rfl, by decide +kernel, rfl, by decide +kernel, by decide +kernel⟩
abbrev st_law_kind : Stmt := topS 33
theorem sc_law_kind : FnScope ["bag", "most", "size"] ["bag", "most"] (defScope st_law_kind) := ⟨rfl, rfl, rfl, by decide +kernel, rfl, by decide +kernel, by decide +kernel⟩
abbrev st_law_menu : Stmt := topS 35
theorem sc_law_menu : FnScope ["bag", "many", "most", "found", "turn", "kind", "size"] ["bag", "many", "most"] (defScope st_law_menu) := ⟨rfl, rfl, rfl, by decide +kernel, rfl, by decide +kernel, by decide +kernel⟩
abbrev st_law_error : Stmt := topS 31
theorem sc_law_error : FnScope ["e", "some", "words", "word", "good"] ["e"] (defScope st_law_error) := ⟨rfl, rfl, rfl, by decide +kernel, rfl, by decide +kernel, by decide +kernel⟩
abbrev st_law_outcome : Stmt := topS 32
theorem sc_law_outcome : FnScope ["call", "found", "e"] ["call"] (defScope st_law_outcome) := ⟨rfl, rfl, rfl, by decide +kernel, rfl, by decide +kernel, by decide +kernel⟩
abbrev st_Browser___len__ : Stmt := inClass (topS 24) 10
theorem sc_Browser___len__ : FnScope ["self"] ["self"] (defScope st_Browser___len__) := ⟨rfl, rfl, rfl, by decide +kernel, rfl, by decide +kernel, by decide +kernel⟩
abbrev st_Browser_size : Stmt := inClass (topS 24) 6
theorem sc_Browser_size : FnScope ["self"] ["self"] (defScope st_Browser_size) := ⟨rfl, rfl, rfl, by decide +kernel, rfl, by decide +kernel, by decide +kernel⟩
abbrev st_law_in : Stmt := topS 30
theorem sc_law_in : FnScope ["x", "low", "high"] ["x", "low", "high"] (defScope st_law_in) := ⟨rfl, rfl, rfl, by decide +kernel, rfl, by decide +kernel, by decide +kernel⟩
abbrev st_law_same : Stmt := topS 29
theorem sc_law_same : FnScope ["a", "b", "x", "y"] ["a", "b"] (defScope st_law_same) := ⟨rfl, rfl, rfl, by decide +kernel, rfl, by decide +kernel, by decide +kernel⟩
abbrev st_law_right : Stmt := topS 37
theorem sc_law_right : FnScope ["run", "state", "calls", "first", "item1", "kind", "page", "due"] ["run", "state", "calls"] (defScope st_law_right) := ⟨rfl, rfl, rfl, by decide +kernel, rfl, by decide +kernel, by decide +kernel⟩
abbrev st_law_change : Stmt := topS 34
theorem sc_law_change : FnScope ["first", "page", "second", "item1"] ["first", "page", "second"] (defScope st_law_change) := ⟨rfl, rfl, rfl, by decide +kernel, rfl, by decide +kernel, by decide +kernel⟩
abbrev st_law_choose : Stmt := topS 36
theorem sc_law_choose : FnScope ["run", "sizes"] ["run", "sizes"] (defScope st_law_choose) := ⟨rfl, rfl, rfl, by decide +kernel, rfl, by decide +kernel, by decide +kernel⟩
abbrev st_law_step : Stmt := topS 38
theorem sc_law_step : FnScope ["bag", "run", "menu", "state", "odd", "good", "kind", "page", "way", "kinds", "other", "told", "far", "turn", "one"] ["bag", "run", "menu", "state"] (defScope st_law_step) := ⟨rfl, rfl, rfl, by decide +kernel, rfl, by decide +kernel, by decide +kernel⟩
abbrev st_law : Stmt := topS 39
theorem sc_law : FnScope ["script", "bag", "safe", "turn", "twin", "size", "menu", "item1", "run", "states", "due", "good", "later"] ["script"] (defScope st_law) := ⟨rfl, rfl, rfl, by decide +kernel, rfl, by decide +kernel, by decide +kernel⟩
/-! ### what the top has left -/
structure ClsT (K : PySem.W.Frag) (mg : Str → Option Value) (C : Addr) : Prop where
  cl : Cl K "Browser" C
  mgC : mg "Browser" = some (.ref C)
  n_menu : NoAttr K C "menu"
  n_states : NoAttr K C "states"
  isc : IsC K C
  c_MOST : ∃ t, Con K C "MOST" (.int 1000000000000000) (.int 1000000000000000 t)
  v_MOST : ∃ mc u, ClX.CRead K C mc ∧ ClX.CVal K C mc "MOST" (.int 1000000000000000) u
  f_Browser___contains__ : ∃ (f : Addr) (fd : FuncData), Fun K "__contains__" "Browser.__contains__" st_Browser___contains__ f fd ∧ PySem.W.findIn K (.ref C) "__contains__" = some (some (.ref f)) ∧ PySem.W.isFn K (.ref f) = true ∧ L2.Binds K fd ["self", "item"] []
  f_Browser___eq__ : ∃ (f : Addr) (fd : FuncData), Fun K "__eq__" "Browser.__eq__" st_Browser___eq__ f fd ∧ PySem.W.findIn K (.ref C) "__eq__" = some (some (.ref f)) ∧ PySem.W.isFn K (.ref f) = true ∧ L2.Binds K fd ["self", "other"] []
  f_Browser___init__ : ∃ (f : Addr) (fd : FuncData), Fun K "__init__" "Browser.__init__" st_Browser___init__ f fd ∧ Mk K C f ∧ (∃ us, Vals [V.int 0] us ∧ L2.Binds K fd ["self", "menu", "item"] us) ∧ KBn K fd ["self", "menu", "item"] 2 ["item"] (fun us ws => us ++ ws) (fun vs zs => vs ++ zs)
  f_Browser_anchor : ∃ (f : Addr) (fd : FuncData), Fun K "anchor" "Browser.anchor" st_Browser_anchor f fd ∧ (∃ p, PropOf K C "anchor" p f) ∧ L2.Binds K fd ["self"] []
  f_Browser_choose : ∃ (f : Addr) (fd : FuncData), Fun K "choose" "Browser.choose" st_Browser_choose f fd ∧ Meth K C "choose" f
  f_Browser_middle : ∃ (f : Addr) (fd : FuncData), Fun K "middle" "Browser.middle" st_Browser_middle f fd ∧ (∃ p mc, ClX.CRead K C mc ∧ ClX.CMet K C mc "middle" p f)
  f_Browser_page : ∃ (f : Addr) (fd : FuncData), Fun K "page" "Browser.page" st_Browser_page f fd ∧ (∃ p, PropOf K C "page" p f) ∧ L2.Binds K fd ["self"] []
  f_Browser_turn : ∃ (f : Addr) (fd : FuncData), Fun K "turn" "Browser.turn" st_Browser_turn f fd ∧ Meth K C "turn" f ∧ L2.Binds K fd ["self", "pages"] []
  f_Browser_undo : ∃ (f : Addr) (fd : FuncData), Fun K "undo" "Browser.undo" st_Browser_undo f fd ∧ Meth K C "undo" f ∧ L2.Binds K fd ["self"] []
  f_Browser___len__ : ∃ (f : Addr) (fd : FuncData), Fun K "__len__" "Browser.__len__" st_Browser___len__ f fd ∧ PySem.W.findIn K (.ref C) "__len__" = some (some (.ref f)) ∧ PySem.W.isFn K (.ref f) = true ∧ L2.Binds K fd ["self"] []
  f_Browser_size : ∃ (f : Addr) (fd : FuncData), Fun K "size" "Browser.size" st_Browser_size f fd ∧ (∃ p, PropOf K C "size" p f) ∧ L2.Binds K fd ["self"] []
structure ErrF (K : PySem.W.Frag) (mg : Str → Option Value) (C1 C2 C3 C4 C5 C6 C7 C8 CS : Addr) : Prop where
  g1 : mg "InvalidKind" = some (.ref C1)
  g2 : mg "InvalidMenu" = some (.ref C2)
  g3 : mg "InvalidPage" = some (.ref C3)
  g4 : mg "InvalidItem" = some (.ref C4)
  g5 : mg "InvalidNumber" = some (.ref C5)
  g6 : mg "InvalidSeen" = some (.ref C6)
  g7 : mg "NoSize" = some (.ref C7)
  g8 : mg "NothingToUndo" = some (.ref C8)
  gS : mg "PageError" = some (.ref CS)
  ec3 : ExcC K C3
  em3 : PySem.W.exmOne K (.ref C3) (.ref CS) = some true
  k31 : PySem.W.kitOne K (.ref C3) (.ref C1) = some false
  k32 : PySem.W.kitOne K (.ref C3) (.ref C2) = some false
  k33 : PySem.W.kitOne K (.ref C3) (.ref C3) = some true
  k34 : PySem.W.kitOne K (.ref C3) (.ref C4) = some false
  k35 : PySem.W.kitOne K (.ref C3) (.ref C5) = some false
  k36 : PySem.W.kitOne K (.ref C3) (.ref C6) = some false
  k37 : PySem.W.kitOne K (.ref C3) (.ref C7) = some false
  k38 : PySem.W.kitOne K (.ref C3) (.ref C8) = some false
  ec7 : ExcC K C7
  em7 : PySem.W.exmOne K (.ref C7) (.ref CS) = some true
  k71 : PySem.W.kitOne K (.ref C7) (.ref C1) = some false
  k72 : PySem.W.kitOne K (.ref C7) (.ref C2) = some false
  k73 : PySem.W.kitOne K (.ref C7) (.ref C3) = some false
  k74 : PySem.W.kitOne K (.ref C7) (.ref C4) = some false
  k75 : PySem.W.kitOne K (.ref C7) (.ref C5) = some false
  k76 : PySem.W.kitOne K (.ref C7) (.ref C6) = some false
  k77 : PySem.W.kitOne K (.ref C7) (.ref C7) = some true
  k78 : PySem.W.kitOne K (.ref C7) (.ref C8) = some false
  ec8 : ExcC K C8
  em8 : PySem.W.exmOne K (.ref C8) (.ref CS) = some true
  k81 : PySem.W.kitOne K (.ref C8) (.ref C1) = some false
  k82 : PySem.W.kitOne K (.ref C8) (.ref C2) = some false
  k83 : PySem.W.kitOne K (.ref C8) (.ref C3) = some false
  k84 : PySem.W.kitOne K (.ref C8) (.ref C4) = some false
  k85 : PySem.W.kitOne K (.ref C8) (.ref C5) = some false
  k86 : PySem.W.kitOne K (.ref C8) (.ref C6) = some false
  k87 : PySem.W.kitOne K (.ref C8) (.ref C7) = some false
  k88 : PySem.W.kitOne K (.ref C8) (.ref C8) = some true
structure Txt (K : PySem.W.Frag) (mg : Str → Option Value) (base : Heap) : Prop where
  er : ∃ C1 C2 C3 C4 C5 C6 C7 C8 CS, ErrF K mg C1 C2 C3 C4 C5 C6 C7 C8 CS
  x_InvalidItem : ∃ C, ExcT K mg "InvalidItem" C
  x_InvalidKind : ∃ C, ExcT K mg "InvalidKind" C
  x_InvalidMenu : ∃ C, ExcT K mg "InvalidMenu" C
  x_InvalidNumber : ∃ C, ExcT K mg "InvalidNumber" C
  x_InvalidPage : ∃ C, ExcT K mg "InvalidPage" C
  x_NoSize : ∃ C, ExcT K mg "NoSize" C
  x_NothingToUndo : ∃ C, ExcT K mg "NothingToUndo" C
  o_cls : ∃ C, ClsT K mg C
  z_all : mg "all" = none
  z_bool : mg "bool" = none
  z_enumerate : mg "enumerate" = none
  z_int : mg "int" = none
  z_isinstance : mg "isinstance" = none
  z_len : mg "len" = none
  z_list : mg "list" = none
  z_max : mg "max" = none
  z_min : mg "min" = none
  z_range : mg "range" = none
  z_sorted : mg "sorted" = none
  z_str : mg "str" = none
  z_tuple : mg "tuple" = none
  z_zip : mg "zip" = none
  c_MOST_MENU : ∃ t, mg "MOST_MENU" = some (.int 6 t)
  c_MOST_PAGE : ∃ t, mg "MOST_PAGE" = some (.int 1000000000000000 t)
  c_MOST_SIZE : ∃ t, mg "MOST_SIZE" = some (.int 1000 t)
  f_in_range : ∃ (f : Addr) (fd : FuncData), Fun K "in_range" "in_range" st_in_range f fd ∧ mg "in_range" = some (.ref f) ∧ L2.Binds K fd ["value", "low", "high"] []
  f_is_kind : ∃ (f : Addr) (fd : FuncData), Fun K "is_kind" "is_kind" st_is_kind f fd ∧ mg "is_kind" = some (.ref f) ∧ L2.Binds K fd ["value"] []
  f_is_menu : ∃ (f : Addr) (fd : FuncData), Fun K "is_menu" "is_menu" st_is_menu f fd ∧ mg "is_menu" = some (.ref f) ∧ L2.Binds K fd ["value"] []
  f_check_menu : ∃ (f : Addr) (fd : FuncData), Fun K "check_menu" "check_menu" st_check_menu f fd ∧ mg "check_menu" = some (.ref f) ∧ L2.Binds K fd ["value"] []
  f_changed : ∃ (f : Addr) (fd : FuncData), Fun K "changed" "changed" st_changed f fd ∧ mg "changed" = some (.ref f) ∧ L2.Binds K fd ["first", "page", "second"] []
  f_kind_on : ∃ (f : Addr) (fd : FuncData), Fun K "kind_on" "kind_on" st_kind_on f fd ∧ mg "kind_on" = some (.ref f) ∧ L2.Binds K fd ["menu", "size"] []
  f_check_number : ∃ (f : Addr) (fd : FuncData), Fun K "check_number" "check_number" st_check_number f fd ∧ mg "check_number" = some (.ref f) ∧ L2.Binds K fd ["value", "low", "high"] []
  f_kind_of : ∃ (f : Addr) (fd : FuncData), Fun K "kind_of" "kind_of" st_kind_of f fd ∧ mg "kind_of" = some (.ref f) ∧ (∃ us, Vals [V.str "first"] us ∧ L2.Binds K fd ["size", "anchor"] us) ∧ KBn K fd ["size", "anchor"] 1 ["anchor"] (fun us ws => us ++ ws) (fun vs zs => vs ++ zs)
  f_law_well : ∃ (f : Addr) (fd : FuncData), Fun K "_law_well" "_law_well" st_law_well f fd ∧ mg "_law_well" = some (.ref f) ∧ L2.Binds K fd ["cell", "turn"] []
  f_law_bags : ∃ (f : Addr) (fd : FuncData), Fun K "_law_bags" "_law_bags" st_law_bags f fd ∧ mg "_law_bags" = some (.ref f) ∧ L2.Binds K fd ["script", "most"] []
  f_law_take : ∃ (f : Addr) (fd : FuncData), Fun K "_law_take" "_law_take" st_law_take f fd ∧ mg "_law_take" = some (.ref f) ∧ L2.Binds K fd ["bag", "many"] []
  f_law_kind : ∃ (f : Addr) (fd : FuncData), Fun K "_law_kind" "_law_kind" st_law_kind f fd ∧ mg "_law_kind" = some (.ref f) ∧ L2.Binds K fd ["bag", "most"] []
  f_law_menu : ∃ (f : Addr) (fd : FuncData), Fun K "_law_menu" "_law_menu" st_law_menu f fd ∧ mg "_law_menu" = some (.ref f) ∧ L2.Binds K fd ["bag", "many", "most"] []
  f_law_error : ∃ (f : Addr) (fd : FuncData), Fun K "_law_error" "_law_error" st_law_error f fd ∧ mg "_law_error" = some (.ref f) ∧ L2.Binds K fd ["e"] []
  f_law_outcome : ∃ (f : Addr) (fd : FuncData), Fun K "_law_outcome" "_law_outcome" st_law_outcome f fd ∧ mg "_law_outcome" = some (.ref f) ∧ L2.Binds K fd ["call"] []
  f_law_in : ∃ (f : Addr) (fd : FuncData), Fun K "_law_in" "_law_in" st_law_in f fd ∧ mg "_law_in" = some (.ref f) ∧ L2.Binds K fd ["x", "low", "high"] []
  f_law_same : ∃ (f : Addr) (fd : FuncData), Fun K "_law_same" "_law_same" st_law_same f fd ∧ mg "_law_same" = some (.ref f) ∧ L2.Binds K fd ["a", "b"] []
  f_law_right : ∃ (f : Addr) (fd : FuncData), Fun K "_law_right" "_law_right" st_law_right f fd ∧ mg "_law_right" = some (.ref f) ∧ L2.Binds K fd ["run", "state", "calls"] []
  f_law_change : ∃ (f : Addr) (fd : FuncData), Fun K "_law_change" "_law_change" st_law_change f fd ∧ mg "_law_change" = some (.ref f) ∧ L2.Binds K fd ["first", "page", "second"] []
  f_law_choose : ∃ (f : Addr) (fd : FuncData), Fun K "_law_choose" "_law_choose" st_law_choose f fd ∧ mg "_law_choose" = some (.ref f) ∧ L2.Binds K fd ["run", "sizes"] []
  f_law_step : ∃ (f : Addr) (fd : FuncData), Fun K "_law_step" "_law_step" st_law_step f fd ∧ mg "_law_step" = some (.ref f) ∧ L2.Binds K fd ["bag", "run", "menu", "state"] [] ∧ MkD K mg base "_law_step" fd
  f_law : ∃ (f : Addr) (fd : FuncData), Fun K "law" "law" st_law f fd ∧ mg "law" = some (.ref f) ∧ L2.Binds K fd ["script"] []
section
variable {P : Program} {w : World} {K : PySem.W.Frag} {mg : Str → Option Value} {base : Heap}
noncomputable def Txt.C (T : Txt K mg base) : Addr := T.o_cls.choose
theorem Txt.cb (T : Txt K mg base) : ClsT K mg T.C := T.o_cls.choose_spec
theorem ok_in_range (T : Txt K mg base) : Def P w K mg base 1 "in_range" ["value", "low", "high"] m_in_range := by
  obtain ⟨f, fd, F, g, b⟩ := T.f_in_range
  exact Def.mk' (k := 0) F g sc_in_range b (fun E cdv A outer s H C => (dss_one (ds_ret (de_and (de_isi .int T.z_isinstance T.z_int (by decide +kernel) (de_var 0)) (de_and (de_not (de_isi .bool T.z_isinstance T.z_bool (by decide +kernel) (de_var 0))) (de_one (de_c2 c_le c_le (de_var 1) (de_var 0) (de_var 2))))))))
theorem ok_Browser___contains__ (T : Txt K mg base) : SpecR P w K mg base 2 T.C "__contains__" m_Browser___contains__ := by
  obtain ⟨f, fd, F, h1, h2, b⟩ := T.cb.f_Browser___contains__
  exact ⟨f, h1, h2, fnr_mk (k := 1) F sc_Browser___contains__ b (fun E cdv A outer s H C => (dss_cons (ds_set 2 C (de_mul (de_ix (de_ix (de_ix (de_fld T.cb.cl T.cb.n_states (de_var 0)) (de_neg de_int)) de_int) de_int) (de_ix (de_ix (de_fld T.cb.cl T.cb.n_states (de_var 0)) (de_neg de_int)) de_int)))
  (dss_one (ds_ret (de_call C (ok_in_range T) (da_cons (de_var 1) (da_cons (de_var 2) (da_cons (de_sub (de_add (de_var 2) (de_ix (de_ix (de_ix (de_fld T.cb.cl T.cb.n_states (de_var 0)) (de_neg de_int)) de_int) de_int)) de_int) da_nil))))))))⟩
theorem ok_Browser___eq__ (T : Txt K mg base) : SpecR P w K mg base 1 T.C "__eq__" m_Browser___eq__ := by
  obtain ⟨f, fd, F, h1, h2, b⟩ := T.cb.f_Browser___eq__
  exact ⟨f, h1, h2, fnr_mk (k := 0) F sc_Browser___eq__ b (fun E cdv A outer s H C => (dss_one (ds_ret (de_and (de_isiO T.cb.cl T.cb.isc T.z_isinstance T.cb.mgC (de_var 1)) (de_and (de_c1 (c_eq C) (de_fld T.cb.cl T.cb.n_menu (de_var 0)) (de_fld T.cb.cl T.cb.n_menu (de_var 1))) (de_one (de_c1 (c_eq C) (de_ix (de_fld T.cb.cl T.cb.n_states (de_var 0)) (de_neg de_int)) (de_ix (de_fld T.cb.cl T.cb.n_states (de_var 1)) (de_neg de_int)))))))))⟩
theorem ok_is_kind (T : Txt K mg base) : Def P w K mg base 2 "is_kind" ["value"] m_is_kind := by
  obtain ⟨f, fd, F, g, b⟩ := T.f_is_kind
  exact Def.mk' (k := 1) F g sc_is_kind b (fun E cdv A outer s H C => (dss_cons (ds_if (dt_w (dw_or (dt_not (dt_val (de_isi .tup T.z_isinstance T.z_tuple (by decide +kernel) (de_var 0)))) (dw_or (dt_c1 (c_ne C) (de_len T.z_len (de_var 0)) de_int) (dw_or1 (dt_not (dt_val (de_call C (ok_in_range T) (da_cons (de_ix (de_var 0) de_int) (da_cons de_int (da_cons (de_glob T.c_MOST_SIZE.choose_spec) da_nil)))))))))) (dss_one (ds_ret de_bl)) dss_nil)
  (dss_one (ds_ret (de_call C (ok_in_range T) (da_cons (de_ix (de_var 0) de_int) (da_cons de_int (da_cons (de_sub (de_ix (de_var 0) de_int) de_int) da_nil))))))))
theorem ok_is_menu (T : Txt K mg base) : Def P w K mg base 3 "is_menu" ["value"] m_is_menu := by
  obtain ⟨f, fd, F, g, b⟩ := T.f_is_menu
  exact Def.mk' (k := 2) F g sc_is_menu b (fun E cdv A outer s H C => (dss_cons (ds_if (dt_w (dw_or (dt_not (dt_val (de_isi .tup T.z_isinstance T.z_tuple (by decide +kernel) (de_var 0)))) (dw_or1 (dt_not (dt_c2 c_le c_le de_int (de_len T.z_len (de_var 0)) (de_glob T.c_MOST_MENU.choose_spec)))))) (dss_one (ds_ret de_bl)) dss_nil)
  (dss_cons (ds_if (dt_not (dt_val (de_all C T.z_all (de_lc [("kind", 1)] (.nm 1) C (di_seq (de_var 0)) (blk_by (N := ["value", "kind", "later"]) (sc := defScope st_is_menu) (by decide +kernel)) (fun _ _ _ _ _ => pg_name (i := 1) C.nd (by rfl) (by first | exact Or.inl rfl | exact Or.inr rfl)) (fun _ _ _ _ _ => dts_nil) (fun _ _ _ _ _ => (de_call (ctl_blk C _ _ _ _ _) (ok_is_kind T) (da_cons (de_var 1) da_nil))))))) (dss_one (ds_ret de_bl)) dss_nil)
  (dss_one (ds_ret (de_all C T.z_all (de_lc [("kind", 1), ("later", 2)] (.tp [1, 2]) C (di_zip T.z_zip (de_var 0) (de_sl (de_var 0) (do_some de_int) do_none)) (blk_by (N := ["value", "kind", "later"]) (sc := defScope st_is_menu) (by decide +kernel)) (fun _ _ _ _ _ => pg_tup (n := 2) C.calm (pgs_cons (pg_name (i := 1) C.nd (by rfl) (by first | exact Or.inl rfl | exact Or.inr rfl)) (pgs_cons (pg_name (i := 2) C.nd (by rfl) (by first | exact Or.inl rfl | exact Or.inr rfl)) pgs_nil))) (fun _ _ _ _ _ => dts_nil) (fun _ _ _ _ _ => (de_c1 c_lt (de_ix (de_var 1) de_int) (de_ix (de_var 2) de_int))))))))))
theorem ok_check_menu (T : Txt K mg base) : Def P w K mg base 4 "check_menu" ["value"] m_check_menu := by
  obtain ⟨f, fd, F, g, b⟩ := T.f_check_menu
  exact Def.mk' (k := 3) F g sc_check_menu b (fun E cdv A outer s H C => (dss_one (ds_if (dt_not (dt_val (de_call C (ok_is_menu T) (da_cons (de_var 0) da_nil)))) (dss_one (ds_raise C T.x_InvalidMenu.choose_spec)) dss_nil)))
theorem ok_Browser___init__ (T : Txt K mg base) : Ini P w K mg base 5 "Browser" T.C 1 ["self", "menu", "item"] [V.int 0] ["item"] m_Browser___init__ := by
  obtain ⟨f, fd, F, h1, b, kb⟩ := T.cb.f_Browser___init__
  exact ⟨f, fd, h1, T.cb.mgC, b, kb, fn_mk (k := 4) F sc_Browser___init__ (fun E cdv A outer s H C => (dss_cons (ds_exp (de_call C (ok_check_menu T) (da_cons (de_var 1) da_nil)))
  (dss_cons (ds_if (dt_not (dt_val (de_call C (ok_in_range T) (da_cons (de_var 2) (da_cons de_int (da_cons (de_glob T.c_MOST_PAGE.choose_spec) da_nil)))))) (dss_one (ds_raise C T.x_InvalidItem.choose_spec)) dss_nil)
  (dss_cons (ds_fld T.cb.cl T.cb.n_menu (de_var 0) (de_var 1))
  (dss_one (ds_fld T.cb.cl T.cb.n_states (de_var 0) (de_loc (da_cons (de_tup (da_cons (de_ix (de_var 1) de_int) (da_cons (de_div (de_var 2) (de_ix (de_ix (de_var 1) de_int) de_int)) da_nil))) da_nil))))))))⟩
theorem ok_Browser_anchor (T : Txt K mg base) : PropR P w K mg base 1 T.C "anchor" m_Browser_anchor := by
  obtain ⟨f, fd, F, ⟨p, h1⟩, b⟩ := T.cb.f_Browser_anchor
  exact ⟨p, f, fd, h1, b, fn_mk (k := 0) F sc_Browser_anchor (fun E cdv A outer s H C => (dss_one (ds_ret (de_add (de_mul (de_ix (de_ix (de_ix (de_fld T.cb.cl T.cb.n_states (de_var 0)) (de_neg de_int)) de_int) de_int) (de_ix (de_ix (de_fld T.cb.cl T.cb.n_states (de_var 0)) (de_neg de_int)) de_int)) (de_ix (de_ix (de_ix (de_fld T.cb.cl T.cb.n_states (de_var 0)) (de_neg de_int)) de_int) de_int)))))⟩
theorem ok_changed (T : Txt K mg base) : Def P w K mg base 1 "changed" ["first", "page", "second"] m_changed := by
  obtain ⟨f, fd, F, g, b⟩ := T.f_changed
  exact Def.mk' (k := 0) F g sc_changed b (fun E cdv A outer s H C => (dss_one (ds_ret (de_div (de_add (de_mul (de_ix (de_var 0) de_int) (de_var 1)) (de_ix (de_var 0) de_int)) (de_ix (de_var 2) de_int)))))
theorem ok_kind_on (T : Txt K mg base) : Def P w K mg base 1 "kind_on" ["menu", "size"] m_kind_on := by
  obtain ⟨f, fd, F, g, b⟩ := T.f_kind_on
  exact Def.mk' (k := 0) F g sc_kind_on b (fun E cdv A outer s H C => (dss_cons (ds_for C (di_seq (de_var 0)) (dg_name 2 C) (dss_one (ds_if (dt_w (dw_and (dt_val (de_isi .int T.z_isinstance T.z_int (by decide +kernel) (de_var 1))) (dw_and (dt_not (dt_val (de_isi .bool T.z_isinstance T.z_bool (by decide +kernel) (de_var 1)))) (dw_and1 (dt_c1 (c_eq C) (de_ix (de_var 2) de_int) (de_var 1)))))) (dss_one (ds_ret (de_var 2))) dss_nil)))
  (dss_one (ds_raise C T.x_NoSize.choose_spec))))
theorem ok_Browser_choose (T : Txt K mg base) : MethR P w K mg base 2 T.C "choose" m_Browser_choose := by
  obtain ⟨f, fd, F, m⟩ := T.cb.f_Browser_choose
  exact ⟨f, m, fnr_star (k := 1) (pv := "sizes") (ps := ["self"]) F sc_Browser_choose (fun kV doc pm an cdv ct => StX.bind_star1 (B := fun us => bindArgs (PySem.W.fnOf "choose" "Browser.choose" (defArgs st_Browser_choose) (defBody st_Browser_choose) (defScope st_Browser_choose) .none kV doc pm an cdv ct) ⟨us, []⟩) (fun a => rfl) (fun a r rs => rfl)) (fun E cdv A outer s H C => (dss_cons (ds_asg (de_ix (de_fld T.cb.cl T.cb.n_states (de_var 0)) (de_neg de_int)) (dg_tup 2 C (dgs_cons (dg_name 3 C) (dgs_cons (dg_name 4 C) dgs_nil))))
  (dss_cons (ds_for C (di_seq (de_var 1)) (dg_name 2 C) (dss_cons (ds_set 5 C (de_call C (ok_kind_on T) (da_cons (de_fld T.cb.cl T.cb.n_menu (de_var 0)) (da_cons (de_var 2) da_nil))))
  (dss_one (ds_par 3 4 C (de_var 5) (de_call C (ok_changed T) (da_cons (de_var 3) (da_cons (de_var 4) (da_cons (de_var 5) da_nil))))))))
  (dss_cons (ds_exp (de_app (de_fld T.cb.cl T.cb.n_states (de_var 0)) (de_tup (da_cons (de_var 3) (da_cons (de_var 4) da_nil)))))
  (dss_one (ds_ret (de_var 4)))))))⟩
theorem ok_check_number (T : Txt K mg base) : Def P w K mg base 2 "check_number" ["value", "low", "high"] m_check_number := by
  obtain ⟨f, fd, F, g, b⟩ := T.f_check_number
  exact Def.mk' (k := 1) F g sc_check_number b (fun E cdv A outer s H C => (dss_one (ds_if (dt_not (dt_val (de_call C (ok_in_range T) (da_cons (de_var 0) (da_cons (de_var 1) (da_cons (de_var 2) da_nil)))))) (dss_one (ds_raise C T.x_InvalidNumber.choose_spec)) dss_nil)))
theorem ok_kind_of (T : Txt K mg base) : DefK P w K mg base 3 "kind_of" 1 ["size", "anchor"] [V.str "first"] ["anchor"] m_kind_of := by
  obtain ⟨f, fd, F, g, b, kb⟩ := T.f_kind_of
  exact ⟨f, fd, g, F.kp, b, kb, fn_mk (k := 2) F sc_kind_of (fun E cdv A outer s H C => (dss_cons (ds_exp (de_call C (ok_check_number T) (da_cons (de_var 0) (da_cons de_int (da_cons (de_glob T.c_MOST_SIZE.choose_spec) da_nil)))))
  (dss_cons (ds_if (dt_w (dw_or (dt_not (dt_val (de_isi .str T.z_isinstance T.z_str (by decide +kernel) (de_var 1)))) (dw_or1 (dt_c1 (c_notin C) (de_var 1) (de_tup (da_cons de_str (da_cons de_str (da_cons de_str da_nil)))))))) (dss_one (ds_raise C T.x_InvalidKind.choose_spec)) dss_nil)
  (dss_cons (ds_if (dt_c1 (c_eq C) (de_var 1) de_str) (dss_one (ds_ret (de_tup (da_cons (de_var 0) (da_cons (de_div (de_var 0) de_int) da_nil))))) dss_nil)
  (dss_one (ds_ret (de_tup (da_cons (de_var 0) (da_cons (de_if (dt_c1 (c_eq C) (de_var 1) de_str) (de_sub (de_var 0) de_int) de_int) da_nil)))))))))⟩
theorem ok_Browser_middle (T : Txt K mg base) : CMetR P w K mg base 7 T.C "middle" m_Browser_middle := by
  obtain ⟨f, fd, F, p, mc, h1, h2⟩ := T.cb.f_Browser_middle
  exact ⟨p, f, mc, h1, h2, fnr_star (k := 6) (pv := "sizes") (ps := ["cls"]) F sc_Browser_middle (fun kV doc pm an cdv ct => StX.bind_star1 (B := fun us => bindArgs (PySem.W.fnOf "middle" "Browser.middle" (defArgs st_Browser_middle) (defBody st_Browser_middle) (defScope st_Browser_middle) .none kV doc pm an cdv ct) ⟨us, []⟩) (fun a => rfl) (fun a r rs => rfl)) (fun E cdv A outer s H C => (dss_cons (ds_setLc 2 [("size", 3)] (.nm 3) C (di_seq (de_var 1)) (blk_by (N := ["cls", "sizes", "kinds", "size", "at", "kind"]) (sc := defScope st_Browser_middle) (by decide +kernel)) (fun _ _ _ _ _ => pg_name (i := 3) C.nd (by rfl) (by first | exact Or.inl rfl | exact Or.inr rfl)) (fun _ _ _ _ _ => dts_nil) (fun _ _ _ _ _ => (de_callKw (ctl_blk C _ _ _ _ _) (ok_kind_of T) (da_cons (de_var 3) da_nil) (dk_cons de_str dk_nil))) (sw_true rfl rfl rfl (by decide +kernel)))
  (dss_one (ds_ret (de_makeL [.int 0] C T.cb.cl (ok_Browser___init__ T) (de_var 0) (da_cons (de_tuplef T.z_tuple (de_lc [("at", 4), ("kind", 5)] (.tp [4, 5]) C (di_seq (de_sortedA C T.z_sorted (de_lc [("kind", 5)] (.nm 5) C (di_seq (de_var 2)) (blk_by (N := ["cls", "sizes", "kinds", "size", "at", "kind"]) (sc := defScope st_Browser_middle) (by decide +kernel)) (fun _ _ _ _ _ => pg_name (i := 5) C.nd (by rfl) (by first | exact Or.inl rfl | exact Or.inr rfl)) (fun _ _ _ _ _ => dts_nil) (fun _ _ _ _ _ => (de_tup (da_cons (de_ix (de_var 5) de_int) (da_cons (de_var 5) da_nil))))))) (blk_by (N := ["cls", "sizes", "kinds", "size", "at", "kind"]) (sc := defScope st_Browser_middle) (by decide +kernel)) (fun _ _ _ _ _ => pg_tup (n := 2) C.calm (pgs_cons (pg_name (i := 4) C.nd (by rfl) (by first | exact Or.inl rfl | exact Or.inr rfl)) (pgs_cons (pg_name (i := 5) C.nd (by rfl) (by first | exact Or.inl rfl | exact Or.inr rfl)) pgs_nil))) (fun _ _ _ _ _ => dts_nil) (fun _ _ _ _ _ => (de_var 5)))) da_nil) (fun _ => .cons (.int _) .nil))))))⟩
theorem ok_Browser_page (T : Txt K mg base) : PropR P w K mg base 1 T.C "page" m_Browser_page := by
  obtain ⟨f, fd, F, ⟨p, h1⟩, b⟩ := T.cb.f_Browser_page
  exact ⟨p, f, fd, h1, b, fn_mk (k := 0) F sc_Browser_page (fun E cdv A outer s H C => (dss_one (ds_ret (de_ix (de_ix (de_fld T.cb.cl T.cb.n_states (de_var 0)) (de_neg de_int)) de_int))))⟩
theorem ok_Browser_turn (T : Txt K mg base) : MethR P w K mg base 2 T.C "turn" m_Browser_turn := by
  obtain ⟨f, fd, F, m, b⟩ := T.cb.f_Browser_turn
  exact ⟨f, m, fnr_mk (k := 1) F sc_Browser_turn b (fun E cdv A outer s H C => (dss_cons (ds_asg (de_ix (de_fld T.cb.cl T.cb.n_states (de_var 0)) (de_neg de_int)) (dg_tup 2 C (dgs_cons (dg_name 2 C) (dgs_cons (dg_name 3 C) dgs_nil))))
  (dss_cons (ds_if (dt_not (dt_val (de_call C (ok_in_range T) (da_cons (de_var 1) (da_cons (de_neg (de_var 3)) (da_cons (de_sub (de_con T.cb.cl T.cb.c_MOST.choose_spec (fun _ => .int _) (de_var 0)) (de_var 3)) da_nil)))))) (dss_one (ds_raise C T.x_InvalidPage.choose_spec)) dss_nil)
  (dss_cons (ds_exp (de_app (de_fld T.cb.cl T.cb.n_states (de_var 0)) (de_tup (da_cons (de_var 2) (da_cons (de_add (de_var 3) (de_var 1)) da_nil)))))
  (dss_one (ds_ret (de_add (de_var 3) (de_var 1))))))))⟩
theorem ok_Browser_undo (T : Txt K mg base) : MethR P w K mg base 1 T.C "undo" m_Browser_undo := by
  obtain ⟨f, fd, F, m, b⟩ := T.cb.f_Browser_undo
  exact ⟨f, m, fnr_mk (k := 0) F sc_Browser_undo b (fun E cdv A outer s H C => (dss_cons (ds_if (dt_c1 (c_eq C) (de_len T.z_len (de_fld T.cb.cl T.cb.n_states (de_var 0))) de_int) (dss_one (ds_raise C T.x_NothingToUndo.choose_spec)) dss_nil)
  (dss_one (ds_exp (de_pop (de_fld T.cb.cl T.cb.n_states (de_var 0)))))))⟩
theorem ok_law_well (T : Txt K mg base) : Def P w K mg base 1 "_law_well" ["cell", "turn"] m_law_well := by
  obtain ⟨f, fd, F, g, b⟩ := T.f_law_well
  exact Def.mk' (k := 0) F g sc_law_well b (fun E cdv A outer s H C => (dss_cons (ds_if (dt_c1 c_ge (de_var 0) (de_pow de_int de_int)) (dss_one (ds_ret (de_loc (da_cons (de_sub (de_var 0) (de_pow de_int de_int)) (da_cons (de_mod (de_var 0) de_int) (da_cons (de_var 1) da_nil)))))) dss_nil)
  (dss_one (ds_ret (de_loc (da_cons de_int (da_cons (de_mod (de_var 0) de_int) (da_cons (de_var 1) da_nil))))))))
theorem ok_law_bags (T : Txt K mg base) : Def P w K mg base 2 "_law_bags" ["script", "most"] m_law_bags := by
  obtain ⟨f, fd, F, g, b⟩ := T.f_law_bags
  exact Def.mk' (k := 1) F g sc_law_bags b (fun E cdv A outer s H C => (dss_one (ds_ret (de_lc [("k", 2), ("cell", 3)] (.tp [2, 3]) C (di_enum T.z_enumerate (de_add (de_sl (de_var 0) do_none (do_some (de_var 1))) (de_lst (da_cons de_int da_nil)))) (blk_by (N := ["script", "most", "k", "cell"]) (sc := defScope st_law_bags) (by decide +kernel)) (fun _ _ _ _ _ => pg_tup (n := 2) C.calm (pgs_cons (pg_name (i := 2) C.nd (by rfl) (by first | exact Or.inl rfl | exact Or.inr rfl)) (pgs_cons (pg_name (i := 3) C.nd (by rfl) (by first | exact Or.inl rfl | exact Or.inr rfl)) pgs_nil))) (fun _ _ _ _ _ => dts_nil) (fun _ _ _ _ _ => (de_call (ctl_blk C _ _ _ _ _) (ok_law_well T) (da_cons (de_var 3) (da_cons (de_mul de_int (de_var 2)) da_nil))))))))
theorem ok_law_take (T : Txt K mg base) : Def P w K mg base 1 "_law_take" ["bag", "many"] m_law_take := by
  obtain ⟨f, fd, F, g, b⟩ := T.f_law_take
  exact Def.mk' (k := 0) F g sc_law_take b (fun E cdv A outer s H C => (dss_cons (ds_if (dt_c1 c_gt (de_ix (de_var 0) de_int) de_int) (dss_cons (ds_set 4 C (de_mod (de_ix (de_var 0) de_int) (de_var 1)))
  (dss_cons (ds_asg (de_div (de_ix (de_var 0) de_int) (de_var 1)) (dg_sub (de_var 0) de_int))
  (dss_one (ds_ret (de_var 4))))) dss_nil)
  (dss_cons (ds_asg (de_add (de_ix (de_var 0) de_int) de_int) (dg_sub (de_var 0) de_int))
  (dss_cons (ds_set 2 C de_int)
  (dss_cons (ds_set 3 C (de_mod (de_add (de_ix (de_var 0) de_int) (de_mul de_int (de_ix (de_var 0) de_int))) (de_var 2)))
  (dss_cons (ds_set 3 C (de_mod (de_add (de_add (de_mul (de_var 3) (de_var 3)) (de_mul de_int (de_pow (de_ix (de_var 0) de_int) de_int))) de_int) (de_var 2)))
  (dss_one (ds_ret (de_mod (de_div (de_mod (de_pow (de_var 3) de_int) (de_var 2)) de_int) (de_var 1))))))))))
theorem ok_law_kind (T : Txt K mg base) : Def P w K mg base 2 "_law_kind" ["bag", "most"] m_law_kind := by
  obtain ⟨f, fd, F, g, b⟩ := T.f_law_kind
  exact Def.mk' (k := 1) F g sc_law_kind b (fun E cdv A outer s H C => (dss_cons (ds_set 2 C (de_add de_int (de_call C (ok_law_take T) (da_cons (de_var 0) (da_cons (de_ix (de_lst (da_cons (de_min C T.z_min (de_var 1) de_int) (da_cons (de_var 1) da_nil))) (de_call C (ok_law_take T) (da_cons (de_var 0) (da_cons de_int da_nil)))) da_nil)))))
  (dss_one (ds_ret (de_tup (da_cons (de_var 2) (da_cons (de_ix (de_lst (da_cons de_int (da_cons (de_sub (de_var 2) de_int) (da_cons (de_div (de_var 2) de_int) (da_cons (de_call C (ok_law_take T) (da_cons (de_var 0) (da_cons (de_var 2) da_nil))) da_nil))))) (de_call C (ok_law_take T) (da_cons (de_var 0) (da_cons de_int da_nil)))) da_nil)))))))
theorem ok_law_menu (T : Txt K mg base) : Def P w K mg base 3 "_law_menu" ["bag", "many", "most"] m_law_menu := by
  obtain ⟨f, fd, F, g, b⟩ := T.f_law_menu
  exact Def.mk' (k := 2) F g sc_law_menu b (fun E cdv A outer s H C => (dss_cons (ds_set 3 C de_dic)
  (dss_cons (ds_for C (di_range1 T.z_range (da_cons (de_add de_int (de_call C (ok_law_take T) (da_cons (de_var 0) (da_cons (de_var 1) da_nil)))) da_nil)) (dg_name 4 C) (dss_cons (ds_set 5 C (de_call C (ok_law_kind T) (da_cons (de_var 0) (da_cons (de_var 2) da_nil))))
  (dss_one (ds_dput C (de_var 3) (de_ix (de_var 5) de_int) (de_var 5)))))
  (dss_one (ds_ret (de_tuplef T.z_tuple (de_lc [("size", 6)] (.nm 6) C (di_seq (de_sortedDic C T.z_sorted (de_var 3))) (blk_by (N := ["bag", "many", "most", "found", "turn", "kind", "size"]) (sc := defScope st_law_menu) (by decide +kernel)) (fun _ _ _ _ _ => pg_name (i := 6) C.nd (by rfl) (by first | exact Or.inl rfl | exact Or.inr rfl)) (fun _ _ _ _ _ => dts_nil) (fun _ _ _ _ _ => (de_dget (ctl_blk C _ _ _ _ _) (de_var 3) (de_var 6))))))))))
abbrev errW : List Str := ["InvalidKind", "InvalidMenu", "InvalidPage", "InvalidItem", "InvalidNumber", "InvalidSeen", "NoSize", "NothingToUndo"]
theorem wk_law_error {f : Addr} {fd : FuncData} {D C1 C2 C3 C4 C5 C6 C7 C8 : Addr} {b1 b2 b3 b4 b5 b6 b7 b8 : Bool} {word : Str} (F : Fun K "_law_error" "_law_error" st_law_error f fd) (hm : mg "_law_error" = some (.ref f)) (hb : L2.Binds K fd ["e"] [])
    (zi : mg "isinstance" = none) (zz : mg "zip" = none) (T : ExcC K D) (hw : Txt.join "" (Hot.sel errW [b1, b2, b3, b4, b5, b6, b7, b8]) = word)
    (c1 : mg "InvalidKind" = some (.ref C1)) (c2 : mg "InvalidMenu" = some (.ref C2)) (c3 : mg "InvalidPage" = some (.ref C3)) (c4 : mg "InvalidItem" = some (.ref C4)) (c5 : mg "InvalidNumber" = some (.ref C5)) (c6 : mg "InvalidSeen" = some (.ref C6)) (c7 : mg "NoSize" = some (.ref C7)) (c8 : mg "NothingToUndo" = some (.ref C8))
    (k1 : PySem.W.kitOne K (.ref D) (.ref C1) = some b1) (k2 : PySem.W.kitOne K (.ref D) (.ref C2) = some b2) (k3 : PySem.W.kitOne K (.ref D) (.ref C3) = some b3) (k4 : PySem.W.kitOne K (.ref D) (.ref C4) = some b4) (k5 : PySem.W.kitOne K (.ref D) (.ref C5) = some b5) (k6 : PySem.W.kitOne K (.ref D) (.ref C6) = some b6) (k7 : PySem.W.kitOne K (.ref D) (.ref C7) = some b7) (k8 : PySem.W.kitOne K (.ref D) (.ref C8) = some b8)
    (hsz : ((Hot.sel errW [b1, b2, b3, b4, b5, b6, b7, b8]).map (·.length)).sum ≤ 16777216) : ErrOk P w K mg base 1 "_law_error" D word :=
  ErrOk.mk' (k := 0) F hm sc_law_error hb fun cdv A outer s H a oe hz hf hot => by
    refine ⟨_, (pss_cons (ps_set (i := 1) sc_law_error.nd rfl (.inl rfl) (pe_lst (pa_cons (pe_isE (a := a) (oe := oe) T List.mem_cons_self hz.zc hf zi c1 k1) (pa_cons (pe_isE (a := a) (oe := oe) T List.mem_cons_self hz.zc hf zi c2 k2) (pa_cons (pe_isE (a := a) (oe := oe) T List.mem_cons_self hz.zc hf zi c3 k3) pa_nil)))) rfl (.inr rfl))
      (pss_cons (ps_set (i := 1) sc_law_error.nd rfl (.inl rfl) (pe_op op_cat (pv 1) (pe_lst (pa_cons (pe_isE (a := a) (oe := oe) T List.mem_cons_self hz.zc hf zi c4 k4) (pa_cons (pe_isE (a := a) (oe := oe) T List.mem_cons_self hz.zc hf zi c5 k5) (pa_cons (pe_isE (a := a) (oe := oe) T List.mem_cons_self hz.zc hf zi c6 k6) pa_nil))))) rfl (.inr rfl))
      (pss_cons (ps_set (i := 1) sc_law_error.nd rfl (.inl rfl) (pe_op op_cat (pv 1) (pe_lst (pa_cons (pe_isE (a := a) (oe := oe) T List.mem_cons_self hz.zc hf zi c7 k7) (pa_cons (pe_isE (a := a) (oe := oe) T List.mem_cons_self hz.zc hf zi c8 k8) pa_nil)))) rfl (.inr rfl))
      (pss_cons (ps_set (i := 2) sc_law_error.nd rfl (.inl rfl) (pe_lst (pa_cons pe_str (pa_cons pe_str (pa_cons pe_str (pa_cons pe_str (pa_cons pe_str (pa_cons pe_str pa_nil))))))) rfl (.inr rfl))
      (pss_cons (ps_set (i := 2) sc_law_error.nd rfl (.inl rfl) (pe_op op_cat (pv 2) (pe_lst (pa_cons pe_str (pa_cons pe_str pa_nil)))) rfl (.inr rfl))
      (pss_one (ps_ret (pe_join pe_str (Hot.pe_lcH (own := [("word", 3), ("good", 4)]) (g := gTup K 2 (gCons (gName 3) (gCons (gName 4) gNil))) (tt := tB (tVar 4)) (te := tVar 3) hot sc_law_error.nd (Hot.pi_zipH rfl zz (pa_cons (pv 2) (pa_cons (pv 1) pa_nil))) (blkOk_by (blk_by (N := ["e", "some", "words", "word", "good"]) (sc := defScope st_law_error) (by decide +kernel)))
        (fun _ _ _ _ _ h => Hot.pg_tupH (n := 2) h (pgs_cons (pg_name (i := 3) sc_law_error.nd (by rfl) (by first | exact Or.inl rfl | exact Or.inr rfl)) (pgs_cons (pg_name (i := 4) sc_law_error.nd (by rfl) (by first | exact Or.inl rfl | exact Or.inr rfl)) pgs_nil)))
        (fun _ _ _ _ _ => pts_one (pt_val (pv 4))) (fun _ _ _ _ _ => pv 3)))))))))), fun Q hQ => ?_⟩
    exact Hot.err_body hsz fun H' hx => by rw [hw]; exact hQ H' hx
theorem ok_law_outcome (T : Txt K mg base) : DefO P w K mg base 2 "_law_outcome" ["InvalidPage", "NoSize", "NothingToUndo"] := by
  obtain ⟨C1, C2, C3, C4, C5, C6, C7, C8, CS, R⟩ := T.er
  obtain ⟨fe, fde, Fe, ge, be⟩ := T.f_law_error
  obtain ⟨f, fd, F, g, b⟩ := T.f_law_outcome
  refine DefO.mk' (a := "call") (y := "found") (n := "e") (xe := "PageError") (xw := "_law_error") (CS := CS) (j := 1) F g sc_law_outcome b rfl R.gS (fun c hc => ?_) rfl rfl (Or.inl rfl) rfl rfl
  rcases List.mem_cons.mp hc with rfl | hc
  · exact ⟨C3, R.g3, R.em3, wk_law_error Fe ge be T.z_isinstance T.z_zip R.ec3 (by decide +kernel) R.g1 R.g2 R.g3 R.g4 R.g5 R.g6 R.g7 R.g8 R.k31 R.k32 R.k33 R.k34 R.k35 R.k36 R.k37 R.k38 (by decide +kernel)⟩
  rcases List.mem_cons.mp hc with rfl | hc
  · exact ⟨C7, R.g7, R.em7, wk_law_error Fe ge be T.z_isinstance T.z_zip R.ec7 (by decide +kernel) R.g1 R.g2 R.g3 R.g4 R.g5 R.g6 R.g7 R.g8 R.k71 R.k72 R.k73 R.k74 R.k75 R.k76 R.k77 R.k78 (by decide +kernel)⟩
  rcases List.mem_cons.mp hc with rfl | hc
  · exact ⟨C8, R.g8, R.em8, wk_law_error Fe ge be T.z_isinstance T.z_zip R.ec8 (by decide +kernel) R.g1 R.g2 R.g3 R.g4 R.g5 R.g6 R.g7 R.g8 R.k81 R.k82 R.k83 R.k84 R.k85 R.k86 R.k87 R.k88 (by decide +kernel)⟩
  cases hc
theorem ok_Browser___len__ (T : Txt K mg base) : SpecR P w K mg base 1 T.C "__len__" m_Browser___len__ := by
  obtain ⟨f, fd, F, h1, h2, b⟩ := T.cb.f_Browser___len__
  exact ⟨f, h1, h2, fnr_mk (k := 0) F sc_Browser___len__ b (fun E cdv A outer s H C => (dss_one (ds_ret (de_len T.z_len (de_sl (de_fld T.cb.cl T.cb.n_states (de_var 0)) (do_some de_int) do_none)))))⟩
theorem ok_Browser_size (T : Txt K mg base) : PropR P w K mg base 1 T.C "size" m_Browser_size := by
  obtain ⟨f, fd, F, ⟨p, h1⟩, b⟩ := T.cb.f_Browser_size
  exact ⟨p, f, fd, h1, b, fn_mk (k := 0) F sc_Browser_size (fun E cdv A outer s H C => (dss_one (ds_ret (de_ix (de_ix (de_ix (de_fld T.cb.cl T.cb.n_states (de_var 0)) (de_neg de_int)) de_int) de_int))))⟩
theorem ok_law_in (T : Txt K mg base) : Def P w K mg base 1 "_law_in" ["x", "low", "high"] m_law_in := by
  obtain ⟨f, fd, F, g, b⟩ := T.f_law_in
  exact Def.mk' (k := 0) F g sc_law_in b (fun E cdv A outer s H C => (dss_one (ds_ret (de_and (de_isi .int T.z_isinstance T.z_int (by decide +kernel) (de_var 0)) (de_and (de_not (de_isi .bool T.z_isinstance T.z_bool (by decide +kernel) (de_var 0))) (de_one (de_c2 c_le c_le (de_var 1) (de_var 0) (de_var 2))))))))
theorem okr_law_same (T : Txt K mg base) : ∀ n, Def P w K mg base (1 + n) "_law_same" ["a", "b"] (mr_law_same n)
  | 0 => let ⟨_, _, F, g, b⟩ := T.f_law_same; (Def.zero F g b).mono (by omega)
  | n + 1 => by
    obtain ⟨f, fd, F, g, b⟩ := T.f_law_same
    have ih := okr_law_same T n
    exact Def.mk' (k := 1 + n) F g sc_law_same b (fun E cdv A outer s H C => (dss_cons (ds_if (dt_w (dw_or (dt_w (dw_and (dt_val (de_isi .lst T.z_isinstance T.z_list (by decide +kernel) (de_var 0))) (dw_and1 (dt_val (de_isi .lst T.z_isinstance T.z_list (by decide +kernel) (de_var 1)))))) (dw_or1 (dt_w (dw_and (dt_val (de_isi .tup T.z_isinstance T.z_tuple (by decide +kernel) (de_var 0))) (dw_and1 (dt_val (de_isi .tup T.z_isinstance T.z_tuple (by decide +kernel) (de_var 1))))))))) (dss_one (ds_ret (de_and (de_c1 (c_eq C) (de_len T.z_len (de_var 0)) (de_len T.z_len (de_var 1))) (de_one (de_all C T.z_all (de_lc [("x", 2), ("y", 3)] (.tp [2, 3]) C (di_zip T.z_zip (de_var 0) (de_var 1)) (blk_by (N := ["a", "b", "x", "y"]) (sc := defScope st_law_same) (by decide +kernel)) (fun _ _ _ _ _ => pg_tup (n := 2) C.calm (pgs_cons (pg_name (i := 2) C.nd (by rfl) (by first | exact Or.inl rfl | exact Or.inr rfl)) (pgs_cons (pg_name (i := 3) C.nd (by rfl) (by first | exact Or.inl rfl | exact Or.inr rfl)) pgs_nil))) (fun _ _ _ _ _ => dts_nil) (fun _ _ _ _ _ => (de_call (ctl_blk C _ _ _ _ _) ih (da_cons (de_var 2) (da_cons (de_var 3) da_nil)) (Nat.le_refl _))))))))) dss_nil)
  (dss_cons (ds_if (dt_w (dw_or (dt_val (de_isi3 .bool .lst .tup T.z_isinstance T.z_bool (by decide +kernel) T.z_list (by decide +kernel) T.z_tuple (by decide +kernel) (de_var 0))) (dw_or1 (dt_val (de_isi3 .bool .lst .tup T.z_isinstance T.z_bool (by decide +kernel) T.z_list (by decide +kernel) T.z_tuple (by decide +kernel) (de_var 1)))))) (dss_one (ds_ret (de_and (de_isi .bool T.z_isinstance T.z_bool (by decide +kernel) (de_var 0)) (de_and (de_isi .bool T.z_isinstance T.z_bool (by decide +kernel) (de_var 1)) (de_one (de_c1 (c_eq C) (de_var 0) (de_var 1))))))) dss_nil)
  (dss_cons (ds_if (dt_w (dw_or (dt_val (de_isi .int T.z_isinstance T.z_int (by decide +kernel) (de_var 0))) (dw_or1 (dt_val (de_isi .int T.z_isinstance T.z_int (by decide +kernel) (de_var 1)))))) (dss_one (ds_ret (de_and (de_isi .int T.z_isinstance T.z_int (by decide +kernel) (de_var 0)) (de_and (de_isi .int T.z_isinstance T.z_int (by decide +kernel) (de_var 1)) (de_one (de_c1 (c_eq C) (de_var 0) (de_var 1))))))) dss_nil)
  (dss_cons (ds_if (dt_w (dw_or (dt_val (de_isi .str T.z_isinstance T.z_str (by decide +kernel) (de_var 0))) (dw_or1 (dt_val (de_isi .str T.z_isinstance T.z_str (by decide +kernel) (de_var 1)))))) (dss_one (ds_ret (de_and (de_isi .str T.z_isinstance T.z_str (by decide +kernel) (de_var 0)) (de_and (de_isi .str T.z_isinstance T.z_str (by decide +kernel) (de_var 1)) (de_one (de_c1 (c_eq C) (de_var 0) (de_var 1))))))) dss_nil)
  (dss_one (ds_ret (de_and (de_c1 c_is (de_var 0) de_non) (de_one (de_c1 c_is (de_var 1) de_non))))))))))
theorem ok_law_same (T : Txt K mg base) : Def P w K mg base 5 "_law_same" ["a", "b"] m_law_same := okr_law_same T 4
theorem ok_law_right (T : Txt K mg base) : Def P w K mg base 6 "_law_right" ["run", "state", "calls"] m_law_right := by
  obtain ⟨f, fd, F, g, b⟩ := T.f_law_right
  exact Def.mk' (k := 5) F g sc_law_right b (fun E cdv A outer s H C => (dss_cons (ds_asg (de_var 1) (dg_tup 2 C (dgs_cons (dg_name 5 C) (dgs_cons (dg_name 6 C) dgs_nil))))
  (dss_cons (ds_set 3 C (de_mul (de_var 6) (de_ix (de_var 5) de_int)))
  (dss_cons (ds_if (dt_not (dt_val (de_call C (ok_law_same T) (da_cons (de_lst (da_cons (de_prop C T.cb.cl (ok_Browser_size T) (de_var 0)) (da_cons (de_prop C T.cb.cl (ok_Browser_page T) (de_var 0)) (da_cons (de_prop C T.cb.cl (ok_Browser_anchor T) (de_var 0)) (da_cons (de_lenO C T.cb.cl (ok_Browser___len__ T) T.z_len (de_var 0)) da_nil))))) (da_cons (de_lst (da_cons (de_ix (de_var 5) de_int) (da_cons (de_var 6) (da_cons (de_add (de_var 3) (de_ix (de_var 5) de_int)) (da_cons (de_var 2) da_nil))))) da_nil))))) (dss_one (ds_ret de_bl)) dss_nil)
  (dss_cons (ds_for C (di_seq (de_tup (da_cons (de_var 3) (da_cons (de_sub (de_var 3) de_int) (da_cons (de_sub (de_add (de_var 3) (de_ix (de_var 5) de_int)) de_int) (da_cons (de_add (de_var 3) (de_ix (de_var 5) de_int)) (da_cons de_non (da_cons de_bl (da_cons de_str (da_cons (de_neg de_int) da_nil)))))))))) (dg_name 4 C) (dss_cons (ds_set 7 C (de_call C (ok_law_in T) (da_cons (de_var 4) (da_cons (de_var 3) (da_cons (de_sub (de_add (de_var 3) (de_ix (de_var 5) de_int)) de_int) da_nil)))))
  (dss_one (ds_if (dt_not (dt_val (de_call C (ok_law_same T) (da_cons (de_c1 (c_inO C T.cb.cl (ok_Browser___contains__ T)) (de_var 4) (de_var 0)) (da_cons (de_var 7) da_nil))))) (dss_one (ds_ret de_bl)) dss_nil))))
  (dss_one (ds_ret de_bl)))))))
theorem ok_law_change (T : Txt K mg base) : Def P w K mg base 1 "_law_change" ["first", "page", "second"] m_law_change := by
  obtain ⟨f, fd, F, g, b⟩ := T.f_law_change
  exact Def.mk' (k := 0) F g sc_law_change b (fun E cdv A outer s H C => (dss_cons (ds_set 3 C (de_add (de_mul (de_var 1) (de_ix (de_var 0) de_int)) (de_ix (de_var 0) de_int)))
  (dss_one (ds_ret (de_div (de_sub (de_var 3) (de_mod (de_var 3) (de_ix (de_var 2) de_int))) (de_ix (de_var 2) de_int))))))
theorem ok_law_choose (T : Txt K mg base) : Def P w K mg base 3 "_law_choose" ["run", "sizes"] m_law_choose := by
  obtain ⟨f, fd, F, g, b⟩ := T.f_law_choose
  exact Def.mk' (k := 2) F g sc_law_choose b (fun E cdv A outer s H C => (dss_cons (ds_if (dt_c1 (c_eq C) (de_var 1) (de_tup da_nil)) (dss_one (ds_ret (de_meth0 C T.cb.cl (ok_Browser_choose T) (de_var 0)))) dss_nil)
  (dss_cons (ds_if (dt_c1 (c_eq C) (de_len T.z_len (de_var 1)) de_int) (dss_one (ds_ret (de_meth C T.cb.cl (ok_Browser_choose T) (de_var 0) (da_cons (de_ix (de_var 1) de_int) da_nil)))) dss_nil)
  (dss_one (ds_ret (de_meth C T.cb.cl (ok_Browser_choose T) (de_var 0) (da_cons (de_ix (de_var 1) de_int) (da_cons (de_ix (de_var 1) de_int) da_nil))))))))
theorem ok_law_step (T : Txt K mg base) : Def P w K mg base 6 "_law_step" ["bag", "run", "menu", "state"] m_law_step := by
  obtain ⟨f, fd, F, g, b, M⟩ := T.f_law_step
  exact Def.mkM' (k := 5) F g sc_law_step b M rfl (fun E cdv A outer s H Mk C => (dss_cons (ds_par3 6 7 8 C (de_ix (de_var 3) de_int) (de_ix (de_var 3) de_int) (de_call C (ok_law_take T) (da_cons (de_var 0) (da_cons de_int da_nil))))
  (dss_cons (ds_if (dt_c1 c_lt (de_var 8) de_int) (dss_cons (ds_set 9 C (de_lc [("turn", 13)] (.nm 13) C (di_range1 T.z_range (da_cons (de_call C (ok_law_take T) (da_cons (de_var 0) (da_cons de_int da_nil))) da_nil)) (blk_by (N := ["bag", "run", "menu", "state", "odd", "good", "kind", "page", "way", "kinds", "other", "told", "far", "turn", "one"]) (sc := defScope st_law_step) (by decide +kernel)) (fun _ _ _ _ _ => pg_name (i := 13) C.nd (by rfl) (by first | exact Or.inl rfl | exact Or.inr rfl)) (fun _ _ _ _ _ => dts_nil) (fun _ _ _ _ _ => (de_ix (de_var 2) (de_call (ctl_blk C _ _ _ _ _) (ok_law_take T) (da_cons (de_var 0) (da_cons (de_len T.z_len (de_var 2)) da_nil)))))))
  (dss_cons (ds_for C (di_seq (de_var 9)) (dg_name 10 C) (dss_one (ds_par 6 7 C (de_var 10) (de_call C (ok_law_change T) (da_cons (de_var 6) (da_cons (de_var 7) (da_cons (de_var 10) da_nil)))))))
  (dss_cons (ds_set 11 C (de_out (n := 1) (ka := 3) C (ok_law_outcome T) Mk (fun _ _ _ _ _ _ _ C1 => (de_call C1 (ok_law_choose T) (da_cons (de_var 1) (da_cons (de_tuplef T.z_tuple (de_lc [("one", 14)] (.nm 14) C1 (di_seq (de_var 9)) (by kernel_rfl) (fun _ _ _ _ _ => pg_name (i := 14) C1.nd (by rfl) (by first | exact Or.inl rfl | exact Or.inr rfl)) (fun _ _ _ _ _ => dts_nil) (fun _ _ _ _ _ => (de_ix (de_var 14) de_int)))) da_nil)))) (LamX.lamS_by (sc := defScope st_law_step) (by decide +kernel))))
  (dss_one (ds_ret (de_tup (da_cons (de_call C (ok_law_same T) (da_cons (de_var 11) (da_cons (de_tup (da_cons de_str (da_cons (de_var 7) da_nil))) da_nil))) (da_cons (de_lst (da_cons (de_tup (da_cons (de_var 6) (da_cons (de_var 7) da_nil))) da_nil)) da_nil)))))))) dss_nil)
  (dss_cons (ds_if (dt_c1 c_lt (de_var 8) de_int) (dss_cons (ds_set 12 C (de_sub (de_call C (ok_law_take T) (da_cons (de_var 0) (da_cons de_int da_nil))) de_int))
  (dss_cons (ds_set 11 C (de_out (n := 1) (ka := 3) C (ok_law_outcome T) Mk (fun _ _ _ _ _ _ _ C1 => (de_meth C1 T.cb.cl (ok_Browser_turn T) (de_var 1) (da_cons (de_var 12) da_nil))) (LamX.lamS_by (sc := defScope st_law_step) (by decide +kernel))))
  (dss_cons (ds_if (dt_c1 c_lt (de_add (de_var 7) (de_var 12)) de_int) (dss_one (ds_ret (de_tup (da_cons (de_c1 (c_eq C) (de_var 11) (de_tup (da_cons de_str da_nil))) (da_cons (de_lst da_nil) da_nil))))) dss_nil)
  (dss_one (ds_ret (de_tup (da_cons (de_call C (ok_law_same T) (da_cons (de_var 11) (da_cons (de_tup (da_cons de_str (da_cons (de_add (de_var 7) (de_var 12)) da_nil))) da_nil))) (da_cons (de_lst (da_cons (de_tup (da_cons (de_var 6) (da_cons (de_add (de_var 7) (de_var 12)) da_nil))) da_nil)) da_nil)))))))) dss_nil)
  (dss_cons (ds_if (dt_c1 (c_eq C) (de_var 8) de_int) (dss_cons (ds_set 4 C (de_ix (de_lst (da_cons de_non (da_cons de_bl (da_cons (de_sub (de_sub de_int (de_var 7)) de_int) (da_cons (de_add (de_pow de_int de_int) de_int) (da_cons de_str da_nil)))))) (de_call C (ok_law_take T) (da_cons (de_var 0) (da_cons de_int da_nil)))))
  (dss_one (ds_ret (de_tup (da_cons (de_c1 (c_eq C) (de_out (n := 1) (ka := 3) C (ok_law_outcome T) Mk (fun _ _ _ _ _ _ _ C1 => (de_meth C1 T.cb.cl (ok_Browser_turn T) (de_var 1) (da_cons (de_var 4) da_nil))) (LamX.lamS_by (sc := defScope st_law_step) (by decide +kernel))) (de_tup (da_cons de_str da_nil))) (da_cons (de_lst da_nil) da_nil)))))) dss_nil)
  (dss_cons (ds_set 4 C (de_ix (de_lst (da_cons de_non (da_cons de_bl (da_cons de_int (da_cons de_int (da_cons de_str (da_cons (de_neg de_int) da_nil))))))) (de_call C (ok_law_take T) (da_cons (de_var 0) (da_cons de_int da_nil)))))
  (dss_cons (ds_set 5 C (de_c1 (c_eq C) (de_out (n := 1) (ka := 3) C (ok_law_outcome T) Mk (fun _ _ _ _ _ _ _ C1 => (de_meth C1 T.cb.cl (ok_Browser_choose T) (de_var 1) (da_cons (de_var 4) da_nil))) (LamX.lamS_by (sc := defScope st_law_step) (by decide +kernel))) (de_tup (da_cons de_str da_nil))))
  (dss_one (ds_ret (de_tup (da_cons (de_and (de_var 5) (de_one (de_c1 (c_eq C) (de_out (n := 1) (ka := 3) C (ok_law_outcome T) Mk (fun _ _ _ _ _ _ _ C1 => (de_meth C1 T.cb.cl (ok_Browser_choose T) (de_var 1) (da_cons (de_ix (de_ix (de_var 2) de_int) de_int) (da_cons (de_var 4) da_nil)))) (LamX.lamS_by (sc := defScope st_law_step) (by decide +kernel))) (de_tup (da_cons de_str da_nil))))) (da_cons (de_lst da_nil) da_nil))))))))))))
theorem ok_law (T : Txt K mg base) {f : Addr} {fd : FuncData} (F : Fun K "law" "law" st_law f fd) (M : MkD K mg base "law" fd) : FnOk P w K mg base (L2N.CX P w) 8 f fd ["script"] (spM K mg m_law) :=
  fn_mkM (k := 7) F sc_law M rfl (fun E cdv A outer s H Mk C => (dss_cons (ds_for C (di_seq (de_call C (ok_law_bags T) (da_cons (de_var 0) (da_cons de_int da_nil)))) (dg_name 1 C) (dss_cons (ds_par 6 7 C (de_call C (ok_law_menu T) (da_cons (de_var 1) (da_cons de_int (da_cons de_int da_nil)))) (de_call C (ok_law_take T) (da_cons (de_var 1) (da_cons (de_pow de_int de_int) da_nil))))
  (dss_cons (ds_asg (de_tup (da_cons (de_makeK C T.cb.cl (ok_Browser___init__ T) (da_cons (de_var 6) da_nil) (dk_cons (de_var 7) dk_nil)) (da_cons (de_lst (da_cons (de_tup (da_cons (de_ix (de_var 6) de_int) (da_cons (de_div (de_var 7) (de_ix (de_ix (de_var 6) de_int) de_int)) da_nil))) da_nil)) da_nil))) (dg_tup 2 C (dgs_cons (dg_name 8 C) (dgs_cons (dg_name 9 C) dgs_nil))))
  (dss_cons (ds_for C (di_range1 T.z_range (da_cons de_int da_nil)) (dg_name 3 C) (dss_cons (ds_if (dt_c1 (c_eq C) (de_call C (ok_law_take T) (da_cons (de_var 1) (da_cons de_int da_nil))) de_int) (dss_cons (ds_set 10 C (de_if (dt_c1 c_gt (de_len T.z_len (de_var 9)) de_int) (de_tup (da_cons de_str (da_cons de_non da_nil))) (de_tup (da_cons de_str da_nil))))
  (dss_cons (ds_set 11 C (de_call C (ok_law_same T) (da_cons (de_out (n := 0) (ka := 5) C (ok_law_outcome T) Mk (fun _ _ _ _ _ _ _ C1 => (de_meth0 C1 T.cb.cl (ok_Browser_undo T) (de_var 8))) (LamX.lamS_by (sc := defScope st_law) (by decide +kernel))) (da_cons (de_var 10) da_nil))))
  (dss_one (ds_set 9 C (de_sl (de_var 9) do_none (do_some (de_max C T.z_max de_int (de_sub (de_len T.z_len (de_var 9)) de_int)))))))) (dss_cons (ds_asg (de_call C (ok_law_step T) (da_cons (de_var 1) (da_cons (de_var 8) (da_cons (de_var 6) (da_cons (de_ix (de_var 9) (de_neg de_int)) da_nil))))) (dg_tup 2 C (dgs_cons (dg_name 11 C) (dgs_cons (dg_name 12 C) dgs_nil))))
  (dss_one (ds_set 9 C (de_add (de_var 9) (de_var 12))))))
  (dss_one (ds_if (dt_w (dw_or (dt_not (dt_val (de_var 11))) (dw_or1 (dt_not (dt_val (de_call C (ok_law_right T) (da_cons (de_var 8) (da_cons (de_ix (de_var 9) (de_neg de_int)) (da_cons (de_sub (de_len T.z_len (de_var 9)) de_int) da_nil))))))))) (dss_one (ds_ret de_bl)) dss_nil))))
  (dss_cons (ds_set 4 C (de_makeK C T.cb.cl (ok_Browser___init__ T) (da_cons (de_var 6) da_nil) (dk_cons (de_mul (de_ix (de_ix (de_ix (de_var 9) (de_neg de_int)) de_int) de_int) (de_ix (de_ix (de_var 9) (de_neg de_int)) de_int)) dk_nil)))
  (dss_cons (ds_exp (de_meth C T.cb.cl (ok_Browser_choose T) (de_var 4) (da_cons (de_ix (de_ix (de_ix (de_var 9) (de_neg de_int)) de_int) de_int) da_nil)))
  (dss_cons (ds_exp (de_meth C T.cb.cl (ok_Browser_turn T) (de_var 4) (da_cons (de_sub (de_ix (de_ix (de_var 9) (de_neg de_int)) de_int) (de_prop C T.cb.cl (ok_Browser_page T) (de_var 4))) da_nil)))
  (dss_cons (ds_if (dt_w (dw_or (dt_not (dt_c1 (c_eqO C T.cb.cl T.cb.isc (ok_Browser___eq__ T)) (de_var 4) (de_var 8))) (dw_or (dt_c1 (c_eqO C T.cb.cl T.cb.isc (ok_Browser___eq__ T)) (de_var 8) (de_ix (de_var 9) (de_neg de_int))) (dw_or1 (dt_c1 (c_eqO C T.cb.cl T.cb.isc (ok_Browser___eq__ T)) (de_var 8) (de_makeK C T.cb.cl (ok_Browser___init__ T) (da_cons (de_add (de_var 6) (de_tup (da_cons (de_tup (da_cons de_int (da_cons de_int da_nil))) da_nil))) da_nil) (dk_cons (de_var 7) dk_nil))))))) (dss_one (ds_ret de_bl)) dss_nil)
  (dss_cons (ds_set 5 C (de_add de_int (de_call C (ok_law_take T) (da_cons (de_var 1) (da_cons de_int da_nil)))))
  (dss_one (ds_if (dt_not (dt_c1 (c_eqO C T.cb.cl T.cb.isc (ok_Browser___eq__ T)) (de_cmeth C T.cb.cl T.cb.mgC (ok_Browser_middle T) (da_cons (de_var 5) (da_cons de_int da_nil))) (de_makeD [.int 0] C T.cb.cl (ok_Browser___init__ T) (da_cons (de_tup (da_cons (de_tup (da_cons de_int (da_cons de_int da_nil))) (da_cons (de_tup (da_cons (de_var 5) (da_cons (de_div (de_var 5) de_int) da_nil))) da_nil))) da_nil) (fun _ => .cons (.int _) .nil)))) (dss_one (ds_ret de_bl)) dss_nil)))))))))))
  (dss_cons (ds_set 2 C (de_cmeth C T.cb.cl T.cb.mgC (ok_Browser_middle T) (da_cons de_int (da_cons de_int da_nil))))
  (dss_one (ds_ret (de_and (de_c1 (c_eq C) (de_meth C T.cb.cl (ok_Browser_choose T) (de_var 2) (da_cons de_int (da_cons de_int da_nil))) de_int) (de_and (de_c1 (c_eq C) (de_prop C T.cb.cl (ok_Browser_anchor T) (de_var 2)) de_int) (de_and (de_c1 (c_inO C T.cb.cl (ok_Browser___contains__ T)) de_int (de_var 2)) (de_one (de_c1 (c_eq C) (de_ccon T.cb.mgC T.cb.v_MOST.choose_spec.choose_spec.1 T.cb.v_MOST.choose_spec.choose_spec.2) (de_pow de_int de_int)))))))))))
end
/-! ### the end -/
theorem all_mk {l : PySem.W.OpenLaw} {w : World} {K : PySem.W.Frag} {h : Heap} {mg : Str → Option Value} {fa : Addr} (X : K.In h) (G : h.Ns mainGlobals mg) (hfa : mg "law" = some (.ref fa)) {p : Program} (TH : TabH p K h)
    {fin_range : Addr} {odin_range anin_range : Option Addr} {slin_range : Array (Option Value)} {ocin_range kVin_range dcin_range pmin_range cdin_range ctin_range : Value}
    {fBrowser___contains__ : Addr} {odBrowser___contains__ anBrowser___contains__ : Option Addr} {slBrowser___contains__ : Array (Option Value)} {ocBrowser___contains__ kVBrowser___contains__ dcBrowser___contains__ pmBrowser___contains__ cdBrowser___contains__ ctBrowser___contains__ : Value}
    {fBrowser___eq__ : Addr} {odBrowser___eq__ anBrowser___eq__ : Option Addr} {slBrowser___eq__ : Array (Option Value)} {ocBrowser___eq__ kVBrowser___eq__ dcBrowser___eq__ pmBrowser___eq__ cdBrowser___eq__ ctBrowser___eq__ : Value}
    {fis_kind : Addr} {odis_kind anis_kind : Option Addr} {slis_kind : Array (Option Value)} {ocis_kind kVis_kind dcis_kind pmis_kind cdis_kind ctis_kind : Value}
    {fis_menu : Addr} {odis_menu anis_menu : Option Addr} {slis_menu : Array (Option Value)} {ocis_menu kVis_menu dcis_menu pmis_menu cdis_menu ctis_menu : Value}
    {fcheck_menu : Addr} {odcheck_menu ancheck_menu : Option Addr} {slcheck_menu : Array (Option Value)} {occheck_menu kVcheck_menu dccheck_menu pmcheck_menu cdcheck_menu ctcheck_menu : Value}
    {fBrowser___init__ kDBrowser___init__ : Addr} {odBrowser___init__ anBrowser___init__ : Option Addr} {slBrowser___init__ : Array (Option Value)} {ocBrowser___init__ dcBrowser___init__ pmBrowser___init__ cdBrowser___init__ ctBrowser___init__ : Value}
    {fBrowser_anchor : Addr} {odBrowser_anchor anBrowser_anchor : Option Addr} {slBrowser_anchor : Array (Option Value)} {ocBrowser_anchor kVBrowser_anchor dcBrowser_anchor pmBrowser_anchor cdBrowser_anchor ctBrowser_anchor : Value}
    {fchanged : Addr} {odchanged anchanged : Option Addr} {slchanged : Array (Option Value)} {occhanged kVchanged dcchanged pmchanged cdchanged ctchanged : Value}
    {fkind_on : Addr} {odkind_on ankind_on : Option Addr} {slkind_on : Array (Option Value)} {ockind_on kVkind_on dckind_on pmkind_on cdkind_on ctkind_on : Value}
    {fBrowser_choose : Addr} {odBrowser_choose anBrowser_choose : Option Addr} {slBrowser_choose : Array (Option Value)} {ocBrowser_choose kVBrowser_choose dcBrowser_choose pmBrowser_choose cdBrowser_choose ctBrowser_choose : Value}
    {fcheck_number : Addr} {odcheck_number ancheck_number : Option Addr} {slcheck_number : Array (Option Value)} {occheck_number kVcheck_number dccheck_number pmcheck_number cdcheck_number ctcheck_number : Value}
    {fkind_of kDkind_of : Addr} {odkind_of ankind_of : Option Addr} {slkind_of : Array (Option Value)} {ockind_of dckind_of pmkind_of cdkind_of ctkind_of : Value}
    {fBrowser_middle : Addr} {odBrowser_middle anBrowser_middle : Option Addr} {slBrowser_middle : Array (Option Value)} {ocBrowser_middle kVBrowser_middle dcBrowser_middle pmBrowser_middle cdBrowser_middle ctBrowser_middle : Value}
    {fBrowser_page : Addr} {odBrowser_page anBrowser_page : Option Addr} {slBrowser_page : Array (Option Value)} {ocBrowser_page kVBrowser_page dcBrowser_page pmBrowser_page cdBrowser_page ctBrowser_page : Value}
    {fBrowser_turn : Addr} {odBrowser_turn anBrowser_turn : Option Addr} {slBrowser_turn : Array (Option Value)} {ocBrowser_turn kVBrowser_turn dcBrowser_turn pmBrowser_turn cdBrowser_turn ctBrowser_turn : Value}
    {fBrowser_undo : Addr} {odBrowser_undo anBrowser_undo : Option Addr} {slBrowser_undo : Array (Option Value)} {ocBrowser_undo kVBrowser_undo dcBrowser_undo pmBrowser_undo cdBrowser_undo ctBrowser_undo : Value}
    {flaw_well : Addr} {odlaw_well anlaw_well : Option Addr} {sllaw_well : Array (Option Value)} {oclaw_well kVlaw_well dclaw_well pmlaw_well cdlaw_well ctlaw_well : Value}
    {flaw_bags : Addr} {odlaw_bags anlaw_bags : Option Addr} {sllaw_bags : Array (Option Value)} {oclaw_bags kVlaw_bags dclaw_bags pmlaw_bags cdlaw_bags ctlaw_bags : Value}
    {flaw_take : Addr} {odlaw_take anlaw_take : Option Addr} {sllaw_take : Array (Option Value)} {oclaw_take kVlaw_take dclaw_take pmlaw_take cdlaw_take ctlaw_take : Value}
    {flaw_kind : Addr} {odlaw_kind anlaw_kind : Option Addr} {sllaw_kind : Array (Option Value)} {oclaw_kind kVlaw_kind dclaw_kind pmlaw_kind cdlaw_kind ctlaw_kind : Value}
    {flaw_menu : Addr} {odlaw_menu anlaw_menu : Option Addr} {sllaw_menu : Array (Option Value)} {oclaw_menu kVlaw_menu dclaw_menu pmlaw_menu cdlaw_menu ctlaw_menu : Value}
    {flaw_error : Addr} {odlaw_error anlaw_error : Option Addr} {sllaw_error : Array (Option Value)} {oclaw_error kVlaw_error dclaw_error pmlaw_error cdlaw_error ctlaw_error : Value}
    {flaw_outcome : Addr} {odlaw_outcome anlaw_outcome : Option Addr} {sllaw_outcome : Array (Option Value)} {oclaw_outcome kVlaw_outcome dclaw_outcome pmlaw_outcome cdlaw_outcome ctlaw_outcome : Value}
    {fBrowser___len__ : Addr} {odBrowser___len__ anBrowser___len__ : Option Addr} {slBrowser___len__ : Array (Option Value)} {ocBrowser___len__ kVBrowser___len__ dcBrowser___len__ pmBrowser___len__ cdBrowser___len__ ctBrowser___len__ : Value}
    {fBrowser_size : Addr} {odBrowser_size anBrowser_size : Option Addr} {slBrowser_size : Array (Option Value)} {ocBrowser_size kVBrowser_size dcBrowser_size pmBrowser_size cdBrowser_size ctBrowser_size : Value}
    {flaw_in : Addr} {odlaw_in anlaw_in : Option Addr} {sllaw_in : Array (Option Value)} {oclaw_in kVlaw_in dclaw_in pmlaw_in cdlaw_in ctlaw_in : Value}
    {flaw_same : Addr} {odlaw_same anlaw_same : Option Addr} {sllaw_same : Array (Option Value)} {oclaw_same kVlaw_same dclaw_same pmlaw_same cdlaw_same ctlaw_same : Value}
    {flaw_right : Addr} {odlaw_right anlaw_right : Option Addr} {sllaw_right : Array (Option Value)} {oclaw_right kVlaw_right dclaw_right pmlaw_right cdlaw_right ctlaw_right : Value}
    {flaw_change : Addr} {odlaw_change anlaw_change : Option Addr} {sllaw_change : Array (Option Value)} {oclaw_change kVlaw_change dclaw_change pmlaw_change cdlaw_change ctlaw_change : Value}
    {flaw_choose : Addr} {odlaw_choose anlaw_choose : Option Addr} {sllaw_choose : Array (Option Value)} {oclaw_choose kVlaw_choose dclaw_choose pmlaw_choose cdlaw_choose ctlaw_choose : Value}
    {flaw_step : Addr} {odlaw_step anlaw_step : Option Addr} {sllaw_step : Array (Option Value)} {oclaw_step kVlaw_step dclaw_step pmlaw_step cdlaw_step ctlaw_step : Value}
    {flaw : Addr} {odlaw anlaw : Option Addr} {sllaw : Array (Option Value)} {oclaw kVlaw dclaw pmlaw cdlaw ctlaw : Value}
    {CC : Addr}
    (C_a : PySem.W.nsIn K mainGlobals "Browser" = some (some (.ref CC)))
    (C_pg : PySem.W.plainGet K CC Str.empty = true)
    (C_hd : PySem.W.hasDictIn K CC = true)
    (C_po : PySem.W.plainOver K CC = true)
    (C_sa : PySem.W.findIn K (.ref CC) "__setattr__" = some (some (.builtin "object.__setattr__")))
    (C_mk : PySem.W.makesIn K CC = true)
    (C_kc : PySem.W.keepIn K (.ref CC) = true)
    (C_n_menu : PySem.W.findIn K (.ref CC) "menu" = some none)
    (C_n_states : PySem.W.findIn K (.ref CC) "states" = some none)
    {tC_MOST tD_MOST : Tok}
    (C_ha : PySem.W.findIn K (.ref CC) "__class__" = some (some (.builtin "object.__class__")))
    (C_hn : PySem.W.specialIn K (.builtin "object.__class__") "__get__" = some (some (.builtin "getset_descriptor.__get__")))
    (C_ht : PySem.W.takesIn K (.builtin "object.__class__") = some true)
    (C_hm : PySem.W.mroIn K CC (.type "object") = some true)
    (C_kt : PySem.W.kitOne K (.type "tuple") (.ref CC) = some false)
    (C_nf : PySem.W.notFirst K CC (.type "tuple") = true)
    (C_rd : PySem.W.readsIn K CC (.type "type") = true)
    (C_ga : PySem.W.specialIn K (.ref CC) "__getattribute__" = some (some (.builtin "type.__getattribute__")))
    (C_fi_MOST : PySem.W.findIn K (.ref CC) "MOST" = some (some (.int 1000000000000000 tC_MOST)))
    (C_gt_MOST : PySem.W.specialIn K (.int 1000000000000000 tC_MOST) "__get__" = some none)
    (C_fc_MOST : PySem.W.findCls K (.ref CC) (.type "type") "MOST" = some (.val (.int 1000000000000000 tD_MOST)))
    {C_InvalidKind : Addr} (g_InvalidKind : PySem.W.nsIn K mainGlobals "InvalidKind" = some (some (.ref C_InvalidKind)))
    {C_InvalidMenu : Addr} (g_InvalidMenu : PySem.W.nsIn K mainGlobals "InvalidMenu" = some (some (.ref C_InvalidMenu)))
    {C_InvalidPage : Addr} (g_InvalidPage : PySem.W.nsIn K mainGlobals "InvalidPage" = some (some (.ref C_InvalidPage)))
    {C_InvalidItem : Addr} (g_InvalidItem : PySem.W.nsIn K mainGlobals "InvalidItem" = some (some (.ref C_InvalidItem)))
    {C_InvalidNumber : Addr} (g_InvalidNumber : PySem.W.nsIn K mainGlobals "InvalidNumber" = some (some (.ref C_InvalidNumber)))
    {C_InvalidSeen : Addr} (g_InvalidSeen : PySem.W.nsIn K mainGlobals "InvalidSeen" = some (some (.ref C_InvalidSeen)))
    {C_NoSize : Addr} (g_NoSize : PySem.W.nsIn K mainGlobals "NoSize" = some (some (.ref C_NoSize)))
    {C_NothingToUndo : Addr} (g_NothingToUndo : PySem.W.nsIn K mainGlobals "NothingToUndo" = some (some (.ref C_NothingToUndo)))
    {C_PageError : Addr} (g_PageError : PySem.W.nsIn K mainGlobals "PageError" = some (some (.ref C_PageError)))
    (ex_InvalidItem : PySem.W.excIn K C_InvalidItem [.type "ValueError", .type "Exception", .type "BaseException", .type "object"] "ValueError.__new__" = true)
    (kp_InvalidItem : PySem.W.keepIn K (.ref C_InvalidItem) = true)
    (sb_InvalidItem : PySem.W.subIn K (.ref C_InvalidItem) (.type "BaseException") = some true)
    (ty_InvalidItem : PySem.W.typeIn K (.ref C_InvalidItem) = some (.type "type"))
    (ex_InvalidKind : PySem.W.excIn K C_InvalidKind [.type "ValueError", .type "Exception", .type "BaseException", .type "object"] "ValueError.__new__" = true)
    (kp_InvalidKind : PySem.W.keepIn K (.ref C_InvalidKind) = true)
    (sb_InvalidKind : PySem.W.subIn K (.ref C_InvalidKind) (.type "BaseException") = some true)
    (ty_InvalidKind : PySem.W.typeIn K (.ref C_InvalidKind) = some (.type "type"))
    (ex_InvalidMenu : PySem.W.excIn K C_InvalidMenu [.type "ValueError", .type "Exception", .type "BaseException", .type "object"] "ValueError.__new__" = true)
    (kp_InvalidMenu : PySem.W.keepIn K (.ref C_InvalidMenu) = true)
    (sb_InvalidMenu : PySem.W.subIn K (.ref C_InvalidMenu) (.type "BaseException") = some true)
    (ty_InvalidMenu : PySem.W.typeIn K (.ref C_InvalidMenu) = some (.type "type"))
    (ex_InvalidNumber : PySem.W.excIn K C_InvalidNumber [.type "ValueError", .type "Exception", .type "BaseException", .type "object"] "ValueError.__new__" = true)
    (kp_InvalidNumber : PySem.W.keepIn K (.ref C_InvalidNumber) = true)
    (sb_InvalidNumber : PySem.W.subIn K (.ref C_InvalidNumber) (.type "BaseException") = some true)
    (ty_InvalidNumber : PySem.W.typeIn K (.ref C_InvalidNumber) = some (.type "type"))
    (ex_InvalidPage : PySem.W.excIn K C_InvalidPage [.type "ValueError", .type "Exception", .type "BaseException", .type "object"] "ValueError.__new__" = true)
    (kp_InvalidPage : PySem.W.keepIn K (.ref C_InvalidPage) = true)
    (sb_InvalidPage : PySem.W.subIn K (.ref C_InvalidPage) (.type "BaseException") = some true)
    (ty_InvalidPage : PySem.W.typeIn K (.ref C_InvalidPage) = some (.type "type"))
    (ex_NoSize : PySem.W.excIn K C_NoSize [.type "ValueError", .type "Exception", .type "BaseException", .type "object"] "ValueError.__new__" = true)
    (kp_NoSize : PySem.W.keepIn K (.ref C_NoSize) = true)
    (sb_NoSize : PySem.W.subIn K (.ref C_NoSize) (.type "BaseException") = some true)
    (ty_NoSize : PySem.W.typeIn K (.ref C_NoSize) = some (.type "type"))
    (ex_NothingToUndo : PySem.W.excIn K C_NothingToUndo [.type "ValueError", .type "Exception", .type "BaseException", .type "object"] "ValueError.__new__" = true)
    (kp_NothingToUndo : PySem.W.keepIn K (.ref C_NothingToUndo) = true)
    (sb_NothingToUndo : PySem.W.subIn K (.ref C_NothingToUndo) (.type "BaseException") = some true)
    (ty_NothingToUndo : PySem.W.typeIn K (.ref C_NothingToUndo) = some (.type "type"))
    (ehg_InvalidPage : PySem.W.findIn K (.ref C_InvalidPage) "__getattribute__" = some (some (.builtin "BaseException.__getattribute__")))
    (ehk_InvalidPage : PySem.W.findIn K (.ref C_InvalidPage) "__getattr__" = some none)
    (ehs_InvalidPage : PySem.W.subIn K (.ref C_InvalidPage) (.type "BaseException") = some true)
    (ehd_InvalidPage : PySem.W.hasDictIn K C_InvalidPage = true)
    (eha_InvalidPage : PySem.W.findIn K (.ref C_InvalidPage) "__class__" = some (some (.builtin "object.__class__")))
    (ehn_InvalidPage : PySem.W.specialIn K (.builtin "object.__class__") "__get__" = some (some (.builtin "getset_descriptor.__get__")))
    (eht_InvalidPage : PySem.W.takesIn K (.builtin "object.__class__") = some true)
    (ehm_InvalidPage : PySem.W.mroIn K C_InvalidPage (.type "object") = some true)
    (em_InvalidPage : PySem.W.exmOne K (.ref C_InvalidPage) (.ref C_PageError) = some true)
    (k_InvalidPage_InvalidKind : PySem.W.kitOne K (.ref C_InvalidPage) (.ref C_InvalidKind) = some false)
    (k_InvalidPage_InvalidMenu : PySem.W.kitOne K (.ref C_InvalidPage) (.ref C_InvalidMenu) = some false)
    (k_InvalidPage_InvalidPage : PySem.W.kitOne K (.ref C_InvalidPage) (.ref C_InvalidPage) = some true)
    (k_InvalidPage_InvalidItem : PySem.W.kitOne K (.ref C_InvalidPage) (.ref C_InvalidItem) = some false)
    (k_InvalidPage_InvalidNumber : PySem.W.kitOne K (.ref C_InvalidPage) (.ref C_InvalidNumber) = some false)
    (k_InvalidPage_InvalidSeen : PySem.W.kitOne K (.ref C_InvalidPage) (.ref C_InvalidSeen) = some false)
    (k_InvalidPage_NoSize : PySem.W.kitOne K (.ref C_InvalidPage) (.ref C_NoSize) = some false)
    (k_InvalidPage_NothingToUndo : PySem.W.kitOne K (.ref C_InvalidPage) (.ref C_NothingToUndo) = some false)
    (ehg_NoSize : PySem.W.findIn K (.ref C_NoSize) "__getattribute__" = some (some (.builtin "BaseException.__getattribute__")))
    (ehk_NoSize : PySem.W.findIn K (.ref C_NoSize) "__getattr__" = some none)
    (ehs_NoSize : PySem.W.subIn K (.ref C_NoSize) (.type "BaseException") = some true)
    (ehd_NoSize : PySem.W.hasDictIn K C_NoSize = true)
    (eha_NoSize : PySem.W.findIn K (.ref C_NoSize) "__class__" = some (some (.builtin "object.__class__")))
    (ehn_NoSize : PySem.W.specialIn K (.builtin "object.__class__") "__get__" = some (some (.builtin "getset_descriptor.__get__")))
    (eht_NoSize : PySem.W.takesIn K (.builtin "object.__class__") = some true)
    (ehm_NoSize : PySem.W.mroIn K C_NoSize (.type "object") = some true)
    (em_NoSize : PySem.W.exmOne K (.ref C_NoSize) (.ref C_PageError) = some true)
    (k_NoSize_InvalidKind : PySem.W.kitOne K (.ref C_NoSize) (.ref C_InvalidKind) = some false)
    (k_NoSize_InvalidMenu : PySem.W.kitOne K (.ref C_NoSize) (.ref C_InvalidMenu) = some false)
    (k_NoSize_InvalidPage : PySem.W.kitOne K (.ref C_NoSize) (.ref C_InvalidPage) = some false)
    (k_NoSize_InvalidItem : PySem.W.kitOne K (.ref C_NoSize) (.ref C_InvalidItem) = some false)
    (k_NoSize_InvalidNumber : PySem.W.kitOne K (.ref C_NoSize) (.ref C_InvalidNumber) = some false)
    (k_NoSize_InvalidSeen : PySem.W.kitOne K (.ref C_NoSize) (.ref C_InvalidSeen) = some false)
    (k_NoSize_NoSize : PySem.W.kitOne K (.ref C_NoSize) (.ref C_NoSize) = some true)
    (k_NoSize_NothingToUndo : PySem.W.kitOne K (.ref C_NoSize) (.ref C_NothingToUndo) = some false)
    (ehg_NothingToUndo : PySem.W.findIn K (.ref C_NothingToUndo) "__getattribute__" = some (some (.builtin "BaseException.__getattribute__")))
    (ehk_NothingToUndo : PySem.W.findIn K (.ref C_NothingToUndo) "__getattr__" = some none)
    (ehs_NothingToUndo : PySem.W.subIn K (.ref C_NothingToUndo) (.type "BaseException") = some true)
    (ehd_NothingToUndo : PySem.W.hasDictIn K C_NothingToUndo = true)
    (eha_NothingToUndo : PySem.W.findIn K (.ref C_NothingToUndo) "__class__" = some (some (.builtin "object.__class__")))
    (ehn_NothingToUndo : PySem.W.specialIn K (.builtin "object.__class__") "__get__" = some (some (.builtin "getset_descriptor.__get__")))
    (eht_NothingToUndo : PySem.W.takesIn K (.builtin "object.__class__") = some true)
    (ehm_NothingToUndo : PySem.W.mroIn K C_NothingToUndo (.type "object") = some true)
    (em_NothingToUndo : PySem.W.exmOne K (.ref C_NothingToUndo) (.ref C_PageError) = some true)
    (k_NothingToUndo_InvalidKind : PySem.W.kitOne K (.ref C_NothingToUndo) (.ref C_InvalidKind) = some false)
    (k_NothingToUndo_InvalidMenu : PySem.W.kitOne K (.ref C_NothingToUndo) (.ref C_InvalidMenu) = some false)
    (k_NothingToUndo_InvalidPage : PySem.W.kitOne K (.ref C_NothingToUndo) (.ref C_InvalidPage) = some false)
    (k_NothingToUndo_InvalidItem : PySem.W.kitOne K (.ref C_NothingToUndo) (.ref C_InvalidItem) = some false)
    (k_NothingToUndo_InvalidNumber : PySem.W.kitOne K (.ref C_NothingToUndo) (.ref C_InvalidNumber) = some false)
    (k_NothingToUndo_InvalidSeen : PySem.W.kitOne K (.ref C_NothingToUndo) (.ref C_InvalidSeen) = some false)
    (k_NothingToUndo_NoSize : PySem.W.kitOne K (.ref C_NothingToUndo) (.ref C_NoSize) = some false)
    (k_NothingToUndo_NothingToUndo : PySem.W.kitOne K (.ref C_NothingToUndo) (.ref C_NothingToUndo) = some true)
    (a_in_range : PySem.W.nsIn K mainGlobals "in_range" = some (some (.ref fin_range)))
    (l_in_range : K.lookup fin_range = some ⟨ocin_range, odin_range, .func (PySem.W.fnOf "in_range" "in_range" (defArgs st_in_range) (defBody st_in_range) (defScope st_in_range) .none kVin_range dcin_range pmin_range anin_range cdin_range ctin_range), slin_range⟩)
    (c_in_range : PySem.W.codeIn K cdin_range "in_range" = true)
    (k_in_range : PySem.W.keepIn K (.ref fin_range) = true)
    (a_Browser___contains__ : PySem.W.findIn K (.ref CC) "__contains__" = some (some (.ref fBrowser___contains__)))
    (i_Browser___contains__ : PySem.W.isFn K (.ref fBrowser___contains__) = true)
    (l_Browser___contains__ : K.lookup fBrowser___contains__ = some ⟨ocBrowser___contains__, odBrowser___contains__, .func (PySem.W.fnOf "__contains__" "Browser.__contains__" (defArgs st_Browser___contains__) (defBody st_Browser___contains__) (defScope st_Browser___contains__) .none kVBrowser___contains__ dcBrowser___contains__ pmBrowser___contains__ anBrowser___contains__ cdBrowser___contains__ ctBrowser___contains__), slBrowser___contains__⟩)
    (c_Browser___contains__ : PySem.W.codeIn K cdBrowser___contains__ "Browser.__contains__" = true)
    (k_Browser___contains__ : PySem.W.keepIn K (.ref fBrowser___contains__) = true)
    (a_Browser___eq__ : PySem.W.findIn K (.ref CC) "__eq__" = some (some (.ref fBrowser___eq__)))
    (i_Browser___eq__ : PySem.W.isFn K (.ref fBrowser___eq__) = true)
    (l_Browser___eq__ : K.lookup fBrowser___eq__ = some ⟨ocBrowser___eq__, odBrowser___eq__, .func (PySem.W.fnOf "__eq__" "Browser.__eq__" (defArgs st_Browser___eq__) (defBody st_Browser___eq__) (defScope st_Browser___eq__) .none kVBrowser___eq__ dcBrowser___eq__ pmBrowser___eq__ anBrowser___eq__ cdBrowser___eq__ ctBrowser___eq__), slBrowser___eq__⟩)
    (c_Browser___eq__ : PySem.W.codeIn K cdBrowser___eq__ "Browser.__eq__" = true)
    (k_Browser___eq__ : PySem.W.keepIn K (.ref fBrowser___eq__) = true)
    (a_is_kind : PySem.W.nsIn K mainGlobals "is_kind" = some (some (.ref fis_kind)))
    (l_is_kind : K.lookup fis_kind = some ⟨ocis_kind, odis_kind, .func (PySem.W.fnOf "is_kind" "is_kind" (defArgs st_is_kind) (defBody st_is_kind) (defScope st_is_kind) .none kVis_kind dcis_kind pmis_kind anis_kind cdis_kind ctis_kind), slis_kind⟩)
    (c_is_kind : PySem.W.codeIn K cdis_kind "is_kind" = true)
    (k_is_kind : PySem.W.keepIn K (.ref fis_kind) = true)
    (a_is_menu : PySem.W.nsIn K mainGlobals "is_menu" = some (some (.ref fis_menu)))
    (l_is_menu : K.lookup fis_menu = some ⟨ocis_menu, odis_menu, .func (PySem.W.fnOf "is_menu" "is_menu" (defArgs st_is_menu) (defBody st_is_menu) (defScope st_is_menu) .none kVis_menu dcis_menu pmis_menu anis_menu cdis_menu ctis_menu), slis_menu⟩)
    (c_is_menu : PySem.W.codeIn K cdis_menu "is_menu" = true)
    (k_is_menu : PySem.W.keepIn K (.ref fis_menu) = true)
    (a_check_menu : PySem.W.nsIn K mainGlobals "check_menu" = some (some (.ref fcheck_menu)))
    (l_check_menu : K.lookup fcheck_menu = some ⟨occheck_menu, odcheck_menu, .func (PySem.W.fnOf "check_menu" "check_menu" (defArgs st_check_menu) (defBody st_check_menu) (defScope st_check_menu) .none kVcheck_menu dccheck_menu pmcheck_menu ancheck_menu cdcheck_menu ctcheck_menu), slcheck_menu⟩)
    (c_check_menu : PySem.W.codeIn K cdcheck_menu "check_menu" = true)
    (k_check_menu : PySem.W.keepIn K (.ref fcheck_menu) = true)
    (a_Browser___init__ : PySem.W.findIn K (.ref CC) "__init__" = some (some (.ref fBrowser___init__)))
    (i_Browser___init__ : PySem.W.isFn K (.ref fBrowser___init__) = true)
    (l_Browser___init__ : K.lookup fBrowser___init__ = some ⟨ocBrowser___init__, odBrowser___init__, .func (PySem.W.fnOf "__init__" "Browser.__init__" (defArgs st_Browser___init__) (defBody st_Browser___init__) (defScope st_Browser___init__) .none (.ref kDBrowser___init__) dcBrowser___init__ pmBrowser___init__ anBrowser___init__ cdBrowser___init__ ctBrowser___init__), slBrowser___init__⟩)
    {tq_Browser___init___item : Tok} (q_Browser___init___item : PySem.W.nsIn K kDBrowser___init__ "item" = some (some (.int 0 tq_Browser___init___item)))
    (c_Browser___init__ : PySem.W.codeIn K cdBrowser___init__ "Browser.__init__" = true)
    (k_Browser___init__ : PySem.W.keepIn K (.ref fBrowser___init__) = true)
    {ppBrowser_anchor : Addr} {rrBrowser_anchor : List Value} (a_Browser_anchor : PySem.W.findIn K (.ref CC) "anchor" = some (some (.ref ppBrowser_anchor)))
    (g_Browser_anchor : PySem.W.specialIn K (.ref ppBrowser_anchor) "__get__" = some (some (.builtin "property.__get__")))
    (t_Browser_anchor : PySem.W.takesIn K (.ref ppBrowser_anchor) = some true)
    (r_Browser_anchor : PySem.W.recIn K ppBrowser_anchor "property" = some (.ref fBrowser_anchor :: rrBrowser_anchor))
    (l_Browser_anchor : K.lookup fBrowser_anchor = some ⟨ocBrowser_anchor, odBrowser_anchor, .func (PySem.W.fnOf "anchor" "Browser.anchor" (defArgs st_Browser_anchor) (defBody st_Browser_anchor) (defScope st_Browser_anchor) .none kVBrowser_anchor dcBrowser_anchor pmBrowser_anchor anBrowser_anchor cdBrowser_anchor ctBrowser_anchor), slBrowser_anchor⟩)
    (c_Browser_anchor : PySem.W.codeIn K cdBrowser_anchor "Browser.anchor" = true)
    (k_Browser_anchor : PySem.W.keepIn K (.ref fBrowser_anchor) = true)
    (a_changed : PySem.W.nsIn K mainGlobals "changed" = some (some (.ref fchanged)))
    (l_changed : K.lookup fchanged = some ⟨occhanged, odchanged, .func (PySem.W.fnOf "changed" "changed" (defArgs st_changed) (defBody st_changed) (defScope st_changed) .none kVchanged dcchanged pmchanged anchanged cdchanged ctchanged), slchanged⟩)
    (c_changed : PySem.W.codeIn K cdchanged "changed" = true)
    (k_changed : PySem.W.keepIn K (.ref fchanged) = true)
    (a_kind_on : PySem.W.nsIn K mainGlobals "kind_on" = some (some (.ref fkind_on)))
    (l_kind_on : K.lookup fkind_on = some ⟨ockind_on, odkind_on, .func (PySem.W.fnOf "kind_on" "kind_on" (defArgs st_kind_on) (defBody st_kind_on) (defScope st_kind_on) .none kVkind_on dckind_on pmkind_on ankind_on cdkind_on ctkind_on), slkind_on⟩)
    (c_kind_on : PySem.W.codeIn K cdkind_on "kind_on" = true)
    (k_kind_on : PySem.W.keepIn K (.ref fkind_on) = true)
    (a_Browser_choose : PySem.W.findIn K (.ref CC) "choose" = some (some (.ref fBrowser_choose)))
    (i_Browser_choose : PySem.W.isFn K (.ref fBrowser_choose) = true)
    (l_Browser_choose : K.lookup fBrowser_choose = some ⟨ocBrowser_choose, odBrowser_choose, .func (PySem.W.fnOf "choose" "Browser.choose" (defArgs st_Browser_choose) (defBody st_Browser_choose) (defScope st_Browser_choose) .none kVBrowser_choose dcBrowser_choose pmBrowser_choose anBrowser_choose cdBrowser_choose ctBrowser_choose), slBrowser_choose⟩)
    (c_Browser_choose : PySem.W.codeIn K cdBrowser_choose "Browser.choose" = true)
    (k_Browser_choose : PySem.W.keepIn K (.ref fBrowser_choose) = true)
    (a_check_number : PySem.W.nsIn K mainGlobals "check_number" = some (some (.ref fcheck_number)))
    (l_check_number : K.lookup fcheck_number = some ⟨occheck_number, odcheck_number, .func (PySem.W.fnOf "check_number" "check_number" (defArgs st_check_number) (defBody st_check_number) (defScope st_check_number) .none kVcheck_number dccheck_number pmcheck_number ancheck_number cdcheck_number ctcheck_number), slcheck_number⟩)
    (c_check_number : PySem.W.codeIn K cdcheck_number "check_number" = true)
    (k_check_number : PySem.W.keepIn K (.ref fcheck_number) = true)
    (a_kind_of : PySem.W.nsIn K mainGlobals "kind_of" = some (some (.ref fkind_of)))
    (l_kind_of : K.lookup fkind_of = some ⟨ockind_of, odkind_of, .func (PySem.W.fnOf "kind_of" "kind_of" (defArgs st_kind_of) (defBody st_kind_of) (defScope st_kind_of) .none (.ref kDkind_of) dckind_of pmkind_of ankind_of cdkind_of ctkind_of), slkind_of⟩)
    {tq_kind_of_anchor : Tok} (q_kind_of_anchor : PySem.W.nsIn K kDkind_of "anchor" = some (some (.str "first" tq_kind_of_anchor)))
    (c_kind_of : PySem.W.codeIn K cdkind_of "kind_of" = true)
    (k_kind_of : PySem.W.keepIn K (.ref fkind_of) = true)
    {ppBrowser_middle : Addr} {rrBrowser_middle : List Value} (a_Browser_middle : PySem.W.findCls K (.ref CC) (.type "type") "middle" = some (.get (.builtin "classmethod.__get__") (.ref ppBrowser_middle) .none (.ref CC)))
    (r_Browser_middle : PySem.W.recIn K ppBrowser_middle "classmethod" = some (.ref fBrowser_middle :: rrBrowser_middle))
    (i_Browser_middle : PySem.W.fnIn K fBrowser_middle = true)
    (l_Browser_middle : K.lookup fBrowser_middle = some ⟨ocBrowser_middle, odBrowser_middle, .func (PySem.W.fnOf "middle" "Browser.middle" (defArgs st_Browser_middle) (defBody st_Browser_middle) (defScope st_Browser_middle) .none kVBrowser_middle dcBrowser_middle pmBrowser_middle anBrowser_middle cdBrowser_middle ctBrowser_middle), slBrowser_middle⟩)
    (c_Browser_middle : PySem.W.codeIn K cdBrowser_middle "Browser.middle" = true)
    (k_Browser_middle : PySem.W.keepIn K (.ref fBrowser_middle) = true)
    {ppBrowser_page : Addr} {rrBrowser_page : List Value} (a_Browser_page : PySem.W.findIn K (.ref CC) "page" = some (some (.ref ppBrowser_page)))
    (g_Browser_page : PySem.W.specialIn K (.ref ppBrowser_page) "__get__" = some (some (.builtin "property.__get__")))
    (t_Browser_page : PySem.W.takesIn K (.ref ppBrowser_page) = some true)
    (r_Browser_page : PySem.W.recIn K ppBrowser_page "property" = some (.ref fBrowser_page :: rrBrowser_page))
    (l_Browser_page : K.lookup fBrowser_page = some ⟨ocBrowser_page, odBrowser_page, .func (PySem.W.fnOf "page" "Browser.page" (defArgs st_Browser_page) (defBody st_Browser_page) (defScope st_Browser_page) .none kVBrowser_page dcBrowser_page pmBrowser_page anBrowser_page cdBrowser_page ctBrowser_page), slBrowser_page⟩)
    (c_Browser_page : PySem.W.codeIn K cdBrowser_page "Browser.page" = true)
    (k_Browser_page : PySem.W.keepIn K (.ref fBrowser_page) = true)
    (a_Browser_turn : PySem.W.findIn K (.ref CC) "turn" = some (some (.ref fBrowser_turn)))
    (i_Browser_turn : PySem.W.isFn K (.ref fBrowser_turn) = true)
    (l_Browser_turn : K.lookup fBrowser_turn = some ⟨ocBrowser_turn, odBrowser_turn, .func (PySem.W.fnOf "turn" "Browser.turn" (defArgs st_Browser_turn) (defBody st_Browser_turn) (defScope st_Browser_turn) .none kVBrowser_turn dcBrowser_turn pmBrowser_turn anBrowser_turn cdBrowser_turn ctBrowser_turn), slBrowser_turn⟩)
    (c_Browser_turn : PySem.W.codeIn K cdBrowser_turn "Browser.turn" = true)
    (k_Browser_turn : PySem.W.keepIn K (.ref fBrowser_turn) = true)
    (a_Browser_undo : PySem.W.findIn K (.ref CC) "undo" = some (some (.ref fBrowser_undo)))
    (i_Browser_undo : PySem.W.isFn K (.ref fBrowser_undo) = true)
    (l_Browser_undo : K.lookup fBrowser_undo = some ⟨ocBrowser_undo, odBrowser_undo, .func (PySem.W.fnOf "undo" "Browser.undo" (defArgs st_Browser_undo) (defBody st_Browser_undo) (defScope st_Browser_undo) .none kVBrowser_undo dcBrowser_undo pmBrowser_undo anBrowser_undo cdBrowser_undo ctBrowser_undo), slBrowser_undo⟩)
    (c_Browser_undo : PySem.W.codeIn K cdBrowser_undo "Browser.undo" = true)
    (k_Browser_undo : PySem.W.keepIn K (.ref fBrowser_undo) = true)
    (a_law_well : PySem.W.nsIn K mainGlobals "_law_well" = some (some (.ref flaw_well)))
    (l_law_well : K.lookup flaw_well = some ⟨oclaw_well, odlaw_well, .func (PySem.W.fnOf "_law_well" "_law_well" (defArgs st_law_well) (defBody st_law_well) (defScope st_law_well) .none kVlaw_well dclaw_well pmlaw_well anlaw_well cdlaw_well ctlaw_well), sllaw_well⟩)
    (c_law_well : PySem.W.codeIn K cdlaw_well "_law_well" = true)
    (k_law_well : PySem.W.keepIn K (.ref flaw_well) = true)
    (a_law_bags : PySem.W.nsIn K mainGlobals "_law_bags" = some (some (.ref flaw_bags)))
    (l_law_bags : K.lookup flaw_bags = some ⟨oclaw_bags, odlaw_bags, .func (PySem.W.fnOf "_law_bags" "_law_bags" (defArgs st_law_bags) (defBody st_law_bags) (defScope st_law_bags) .none kVlaw_bags dclaw_bags pmlaw_bags anlaw_bags cdlaw_bags ctlaw_bags), sllaw_bags⟩)
    (c_law_bags : PySem.W.codeIn K cdlaw_bags "_law_bags" = true)
    (k_law_bags : PySem.W.keepIn K (.ref flaw_bags) = true)
    (a_law_take : PySem.W.nsIn K mainGlobals "_law_take" = some (some (.ref flaw_take)))
    (l_law_take : K.lookup flaw_take = some ⟨oclaw_take, odlaw_take, .func (PySem.W.fnOf "_law_take" "_law_take" (defArgs st_law_take) (defBody st_law_take) (defScope st_law_take) .none kVlaw_take dclaw_take pmlaw_take anlaw_take cdlaw_take ctlaw_take), sllaw_take⟩)
    (c_law_take : PySem.W.codeIn K cdlaw_take "_law_take" = true)
    (k_law_take : PySem.W.keepIn K (.ref flaw_take) = true)
    (a_law_kind : PySem.W.nsIn K mainGlobals "_law_kind" = some (some (.ref flaw_kind)))
    (l_law_kind : K.lookup flaw_kind = some ⟨oclaw_kind, odlaw_kind, .func (PySem.W.fnOf "_law_kind" "_law_kind" (defArgs st_law_kind) (defBody st_law_kind) (defScope st_law_kind) .none kVlaw_kind dclaw_kind pmlaw_kind anlaw_kind cdlaw_kind ctlaw_kind), sllaw_kind⟩)
    (c_law_kind : PySem.W.codeIn K cdlaw_kind "_law_kind" = true)
    (k_law_kind : PySem.W.keepIn K (.ref flaw_kind) = true)
    (a_law_menu : PySem.W.nsIn K mainGlobals "_law_menu" = some (some (.ref flaw_menu)))
    (l_law_menu : K.lookup flaw_menu = some ⟨oclaw_menu, odlaw_menu, .func (PySem.W.fnOf "_law_menu" "_law_menu" (defArgs st_law_menu) (defBody st_law_menu) (defScope st_law_menu) .none kVlaw_menu dclaw_menu pmlaw_menu anlaw_menu cdlaw_menu ctlaw_menu), sllaw_menu⟩)
    (c_law_menu : PySem.W.codeIn K cdlaw_menu "_law_menu" = true)
    (k_law_menu : PySem.W.keepIn K (.ref flaw_menu) = true)
    (a_law_error : PySem.W.nsIn K mainGlobals "_law_error" = some (some (.ref flaw_error)))
    (l_law_error : K.lookup flaw_error = some ⟨oclaw_error, odlaw_error, .func (PySem.W.fnOf "_law_error" "_law_error" (defArgs st_law_error) (defBody st_law_error) (defScope st_law_error) .none kVlaw_error dclaw_error pmlaw_error anlaw_error cdlaw_error ctlaw_error), sllaw_error⟩)
    (c_law_error : PySem.W.codeIn K cdlaw_error "_law_error" = true)
    (k_law_error : PySem.W.keepIn K (.ref flaw_error) = true)
    (a_law_outcome : PySem.W.nsIn K mainGlobals "_law_outcome" = some (some (.ref flaw_outcome)))
    (l_law_outcome : K.lookup flaw_outcome = some ⟨oclaw_outcome, odlaw_outcome, .func (PySem.W.fnOf "_law_outcome" "_law_outcome" (defArgs st_law_outcome) (defBody st_law_outcome) (defScope st_law_outcome) .none kVlaw_outcome dclaw_outcome pmlaw_outcome anlaw_outcome cdlaw_outcome ctlaw_outcome), sllaw_outcome⟩)
    (c_law_outcome : PySem.W.codeIn K cdlaw_outcome "_law_outcome" = true)
    (k_law_outcome : PySem.W.keepIn K (.ref flaw_outcome) = true)
    (a_Browser___len__ : PySem.W.findIn K (.ref CC) "__len__" = some (some (.ref fBrowser___len__)))
    (i_Browser___len__ : PySem.W.isFn K (.ref fBrowser___len__) = true)
    (l_Browser___len__ : K.lookup fBrowser___len__ = some ⟨ocBrowser___len__, odBrowser___len__, .func (PySem.W.fnOf "__len__" "Browser.__len__" (defArgs st_Browser___len__) (defBody st_Browser___len__) (defScope st_Browser___len__) .none kVBrowser___len__ dcBrowser___len__ pmBrowser___len__ anBrowser___len__ cdBrowser___len__ ctBrowser___len__), slBrowser___len__⟩)
    (c_Browser___len__ : PySem.W.codeIn K cdBrowser___len__ "Browser.__len__" = true)
    (k_Browser___len__ : PySem.W.keepIn K (.ref fBrowser___len__) = true)
    {ppBrowser_size : Addr} {rrBrowser_size : List Value} (a_Browser_size : PySem.W.findIn K (.ref CC) "size" = some (some (.ref ppBrowser_size)))
    (g_Browser_size : PySem.W.specialIn K (.ref ppBrowser_size) "__get__" = some (some (.builtin "property.__get__")))
    (t_Browser_size : PySem.W.takesIn K (.ref ppBrowser_size) = some true)
    (r_Browser_size : PySem.W.recIn K ppBrowser_size "property" = some (.ref fBrowser_size :: rrBrowser_size))
    (l_Browser_size : K.lookup fBrowser_size = some ⟨ocBrowser_size, odBrowser_size, .func (PySem.W.fnOf "size" "Browser.size" (defArgs st_Browser_size) (defBody st_Browser_size) (defScope st_Browser_size) .none kVBrowser_size dcBrowser_size pmBrowser_size anBrowser_size cdBrowser_size ctBrowser_size), slBrowser_size⟩)
    (c_Browser_size : PySem.W.codeIn K cdBrowser_size "Browser.size" = true)
    (k_Browser_size : PySem.W.keepIn K (.ref fBrowser_size) = true)
    (a_law_in : PySem.W.nsIn K mainGlobals "_law_in" = some (some (.ref flaw_in)))
    (l_law_in : K.lookup flaw_in = some ⟨oclaw_in, odlaw_in, .func (PySem.W.fnOf "_law_in" "_law_in" (defArgs st_law_in) (defBody st_law_in) (defScope st_law_in) .none kVlaw_in dclaw_in pmlaw_in anlaw_in cdlaw_in ctlaw_in), sllaw_in⟩)
    (c_law_in : PySem.W.codeIn K cdlaw_in "_law_in" = true)
    (k_law_in : PySem.W.keepIn K (.ref flaw_in) = true)
    (a_law_same : PySem.W.nsIn K mainGlobals "_law_same" = some (some (.ref flaw_same)))
    (l_law_same : K.lookup flaw_same = some ⟨oclaw_same, odlaw_same, .func (PySem.W.fnOf "_law_same" "_law_same" (defArgs st_law_same) (defBody st_law_same) (defScope st_law_same) .none kVlaw_same dclaw_same pmlaw_same anlaw_same cdlaw_same ctlaw_same), sllaw_same⟩)
    (c_law_same : PySem.W.codeIn K cdlaw_same "_law_same" = true)
    (k_law_same : PySem.W.keepIn K (.ref flaw_same) = true)
    (a_law_right : PySem.W.nsIn K mainGlobals "_law_right" = some (some (.ref flaw_right)))
    (l_law_right : K.lookup flaw_right = some ⟨oclaw_right, odlaw_right, .func (PySem.W.fnOf "_law_right" "_law_right" (defArgs st_law_right) (defBody st_law_right) (defScope st_law_right) .none kVlaw_right dclaw_right pmlaw_right anlaw_right cdlaw_right ctlaw_right), sllaw_right⟩)
    (c_law_right : PySem.W.codeIn K cdlaw_right "_law_right" = true)
    (k_law_right : PySem.W.keepIn K (.ref flaw_right) = true)
    (a_law_change : PySem.W.nsIn K mainGlobals "_law_change" = some (some (.ref flaw_change)))
    (l_law_change : K.lookup flaw_change = some ⟨oclaw_change, odlaw_change, .func (PySem.W.fnOf "_law_change" "_law_change" (defArgs st_law_change) (defBody st_law_change) (defScope st_law_change) .none kVlaw_change dclaw_change pmlaw_change anlaw_change cdlaw_change ctlaw_change), sllaw_change⟩)
    (c_law_change : PySem.W.codeIn K cdlaw_change "_law_change" = true)
    (k_law_change : PySem.W.keepIn K (.ref flaw_change) = true)
    (a_law_choose : PySem.W.nsIn K mainGlobals "_law_choose" = some (some (.ref flaw_choose)))
    (l_law_choose : K.lookup flaw_choose = some ⟨oclaw_choose, odlaw_choose, .func (PySem.W.fnOf "_law_choose" "_law_choose" (defArgs st_law_choose) (defBody st_law_choose) (defScope st_law_choose) .none kVlaw_choose dclaw_choose pmlaw_choose anlaw_choose cdlaw_choose ctlaw_choose), sllaw_choose⟩)
    (c_law_choose : PySem.W.codeIn K cdlaw_choose "_law_choose" = true)
    (k_law_choose : PySem.W.keepIn K (.ref flaw_choose) = true)
    (a_law_step : PySem.W.nsIn K mainGlobals "_law_step" = some (some (.ref flaw_step)))
    (l_law_step : K.lookup flaw_step = some ⟨oclaw_step, odlaw_step, .func (PySem.W.fnOf "_law_step" "_law_step" (defArgs st_law_step) (defBody st_law_step) (defScope st_law_step) .none kVlaw_step dclaw_step pmlaw_step anlaw_step cdlaw_step ctlaw_step), sllaw_step⟩)
    (c_law_step : PySem.W.codeIn K cdlaw_step "_law_step" = true)
    (k_law_step : PySem.W.keepIn K (.ref flaw_step) = true)
    (a_law : PySem.W.nsIn K mainGlobals "law" = some (some (.ref flaw)))
    (l_law : K.lookup flaw = some ⟨oclaw, odlaw, .func (PySem.W.fnOf "law" "law" (defArgs st_law) (defBody st_law) (defScope st_law) .none kVlaw dclaw pmlaw anlaw cdlaw ctlaw), sllaw⟩)
    (c_law : PySem.W.codeIn K cdlaw "law" = true)
    (k_law : PySem.W.keepIn K (.ref flaw) = true)
    (z_all : PySem.W.nsIn K mainGlobals "all" = some none)
    (z_bool : PySem.W.nsIn K mainGlobals "bool" = some none)
    (z_enumerate : PySem.W.nsIn K mainGlobals "enumerate" = some none)
    (z_int : PySem.W.nsIn K mainGlobals "int" = some none)
    (z_isinstance : PySem.W.nsIn K mainGlobals "isinstance" = some none)
    (z_len : PySem.W.nsIn K mainGlobals "len" = some none)
    (z_list : PySem.W.nsIn K mainGlobals "list" = some none)
    (z_max : PySem.W.nsIn K mainGlobals "max" = some none)
    (z_min : PySem.W.nsIn K mainGlobals "min" = some none)
    (z_range : PySem.W.nsIn K mainGlobals "range" = some none)
    (z_sorted : PySem.W.nsIn K mainGlobals "sorted" = some none)
    (z_str : PySem.W.nsIn K mainGlobals "str" = some none)
    (z_tuple : PySem.W.nsIn K mainGlobals "tuple" = some none)
    (z_zip : PySem.W.nsIn K mainGlobals "zip" = some none)
    {tk_MOST_MENU : Tok} (v_MOST_MENU : PySem.W.nsIn K mainGlobals "MOST_MENU" = some (some (.int 6 tk_MOST_MENU)))
    (u_MOST_PAGE : ∃ t, mg "MOST_PAGE" = some (.int 1000000000000000 t))
    {tk_MOST_SIZE : Tok} (v_MOST_SIZE : PySem.W.nsIn K mainGlobals "MOST_SIZE" = some (some (.int 1000 tk_MOST_SIZE)))
    {cT_law PT_law : Addr} {eT_law : Value} {dT_law : Option Addr} {vT_law : Array Value} {sT_law : Array (Option Value)} (hc_law : cdlaw = .ref cT_law) (lc_law : K.lookup cT_law = some ⟨eT_law, dT_law, .fields vT_law, sT_law⟩) (hv_law : vT_law[11]? = some (.ref PT_law))
    (n_law : K.lookup PT_law = none)
    (r_law : ((recsOf p).find? fun e => e.name == ("law" : Str)).isSome = true)
    {cT_law_step PT_law_step : Addr} {eT_law_step : Value} {dT_law_step : Option Addr} {vT_law_step : Array Value} {sT_law_step : Array (Option Value)} (hc_law_step : cdlaw_step = .ref cT_law_step) (lc_law_step : K.lookup cT_law_step = some ⟨eT_law_step, dT_law_step, .fields vT_law_step, sT_law_step⟩) (hv_law_step : vT_law_step[11]? = some (.ref PT_law_step))
    (n_law_step : K.lookup PT_law_step = none)
    (r_law_step : ((recsOf p).find? fun e => e.name == ("_law_step" : Str)).isSome = true)
    (nd_T : [PT_law, PT_law_step].Nodup)
    : LamX.LawAtS l w K (L2N.CX l.prog w) 8 63 "script" mg fa h := by
  have e := hfa.symm.trans (PySem.W.mg_of X G a_law)
  cases e
  have t_law : PySem.W.tabIn K "law" = some (cT_law, PT_law) := tab_mk a_law l_law hc_law lc_law hv_law
  have t_law_step : PySem.W.tabIn K "_law_step" = some (cT_law_step, PT_law_step) := tab_mk a_law_step l_law_step hc_law_step lc_law_step hv_law_step
  refine lawAtS_of (fd := PySem.W.fnOf "law" "law" (defArgs st_law) (defBody st_law) (defScope st_law) .none kVlaw dclaw pmlaw anlaw cdlaw ctlaw) (m := m_law) p [("law", "law.<locals>.<lambda>", cT_law, PT_law), ("_law_step", "_law_step.<locals>.<lambda>", cT_law_step, PT_law_step)] TH (fun t ht => ?_) nd_T (fun s v => .of_eq rfl) law_true fun base hK hN hTB => ?_
  · rcases List.mem_cons.mp ht with rfl | ht
    · exact ⟨r_law, t_law, n_law⟩
    rcases List.mem_cons.mp ht with rfl | ht
    · exact ⟨r_law_step, t_law_step, n_law_step⟩
    cases ht
  have T : Txt K mg base := {
    x_InvalidItem := ⟨_, PySem.W.mg_of X G g_InvalidItem, ex_InvalidItem, kp_InvalidItem, sb_InvalidItem, ty_InvalidItem⟩
    x_InvalidKind := ⟨_, PySem.W.mg_of X G g_InvalidKind, ex_InvalidKind, kp_InvalidKind, sb_InvalidKind, ty_InvalidKind⟩
    x_InvalidMenu := ⟨_, PySem.W.mg_of X G g_InvalidMenu, ex_InvalidMenu, kp_InvalidMenu, sb_InvalidMenu, ty_InvalidMenu⟩
    x_InvalidNumber := ⟨_, PySem.W.mg_of X G g_InvalidNumber, ex_InvalidNumber, kp_InvalidNumber, sb_InvalidNumber, ty_InvalidNumber⟩
    x_InvalidPage := ⟨_, PySem.W.mg_of X G g_InvalidPage, ex_InvalidPage, kp_InvalidPage, sb_InvalidPage, ty_InvalidPage⟩
    x_NoSize := ⟨_, PySem.W.mg_of X G g_NoSize, ex_NoSize, kp_NoSize, sb_NoSize, ty_NoSize⟩
    x_NothingToUndo := ⟨_, PySem.W.mg_of X G g_NothingToUndo, ex_NothingToUndo, kp_NothingToUndo, sb_NothingToUndo, ty_NothingToUndo⟩
    er := ⟨_, _, _, _, _, _, _, _, _, {g1 := PySem.W.mg_of X G g_InvalidKind, g2 := PySem.W.mg_of X G g_InvalidMenu, g3 := PySem.W.mg_of X G g_InvalidPage, g4 := PySem.W.mg_of X G g_InvalidItem, g5 := PySem.W.mg_of X G g_InvalidNumber, g6 := PySem.W.mg_of X G g_InvalidSeen, g7 := PySem.W.mg_of X G g_NoSize, g8 := PySem.W.mg_of X G g_NothingToUndo, gS := PySem.W.mg_of X G g_PageError, ec3 := ⟨ehg_InvalidPage, ehk_InvalidPage, ehs_InvalidPage, ehd_InvalidPage, eha_InvalidPage, ehn_InvalidPage, eht_InvalidPage, ehm_InvalidPage⟩, ec7 := ⟨ehg_NoSize, ehk_NoSize, ehs_NoSize, ehd_NoSize, eha_NoSize, ehn_NoSize, eht_NoSize, ehm_NoSize⟩, ec8 := ⟨ehg_NothingToUndo, ehk_NothingToUndo, ehs_NothingToUndo, ehd_NothingToUndo, eha_NothingToUndo, ehn_NothingToUndo, eht_NothingToUndo, ehm_NothingToUndo⟩, em3 := em_InvalidPage, em7 := em_NoSize, em8 := em_NothingToUndo, k31 := k_InvalidPage_InvalidKind, k32 := k_InvalidPage_InvalidMenu, k33 := k_InvalidPage_InvalidPage, k34 := k_InvalidPage_InvalidItem, k35 := k_InvalidPage_InvalidNumber, k36 := k_InvalidPage_InvalidSeen, k37 := k_InvalidPage_NoSize, k38 := k_InvalidPage_NothingToUndo, k71 := k_NoSize_InvalidKind, k72 := k_NoSize_InvalidMenu, k73 := k_NoSize_InvalidPage, k74 := k_NoSize_InvalidItem, k75 := k_NoSize_InvalidNumber, k76 := k_NoSize_InvalidSeen, k77 := k_NoSize_NoSize, k78 := k_NoSize_NothingToUndo, k81 := k_NothingToUndo_InvalidKind, k82 := k_NothingToUndo_InvalidMenu, k83 := k_NothingToUndo_InvalidPage, k84 := k_NothingToUndo_InvalidItem, k85 := k_NothingToUndo_InvalidNumber, k86 := k_NothingToUndo_InvalidSeen, k87 := k_NothingToUndo_NoSize, k88 := k_NothingToUndo_NothingToUndo}⟩
    z_all := PySem.W.mg_none_of X G z_all
    z_bool := PySem.W.mg_none_of X G z_bool
    z_enumerate := PySem.W.mg_none_of X G z_enumerate
    z_int := PySem.W.mg_none_of X G z_int
    z_isinstance := PySem.W.mg_none_of X G z_isinstance
    z_len := PySem.W.mg_none_of X G z_len
    z_list := PySem.W.mg_none_of X G z_list
    z_max := PySem.W.mg_none_of X G z_max
    z_min := PySem.W.mg_none_of X G z_min
    z_range := PySem.W.mg_none_of X G z_range
    z_sorted := PySem.W.mg_none_of X G z_sorted
    z_str := PySem.W.mg_none_of X G z_str
    z_tuple := PySem.W.mg_none_of X G z_tuple
    z_zip := PySem.W.mg_none_of X G z_zip
    c_MOST_MENU := ⟨_, PySem.W.mg_of X G v_MOST_MENU⟩
    c_MOST_PAGE := u_MOST_PAGE
    c_MOST_SIZE := ⟨_, PySem.W.mg_of X G v_MOST_SIZE⟩
    o_cls := ⟨CC, {
      cl := ⟨C_a, ⟨C_pg, C_hd, C_po, C_sa⟩⟩
      mgC := PySem.W.mg_of X G C_a
      n_menu := C_n_menu
      n_states := C_n_states
      isc := ⟨C_ha, C_hn, C_ht, C_hm, C_kt, C_nf⟩
      c_MOST := ⟨_, C_fi_MOST, ⟨_, rfl⟩, C_gt_MOST, by decide⟩
      v_MOST := ⟨.type "type", _, ⟨C_rd, C_ga⟩, C_fc_MOST, ⟨_, rfl⟩⟩
      f_Browser___contains__ := ⟨_, _, fun_mk (x := "__contains__") (qual := "Browser.__contains__") (st := st_Browser___contains__) l_Browser___contains__ c_Browser___contains__ k_Browser___contains__, a_Browser___contains__, i_Browser___contains__, (fun_mk (x := "__contains__") (qual := "Browser.__contains__") (st := st_Browser___contains__) l_Browser___contains__ c_Browser___contains__ k_Browser___contains__).binds fun _ _ _ _ _ _ us hl => match us, hl with | [_, _], _ => rfl⟩
      f_Browser___eq__ := ⟨_, _, fun_mk (x := "__eq__") (qual := "Browser.__eq__") (st := st_Browser___eq__) l_Browser___eq__ c_Browser___eq__ k_Browser___eq__, a_Browser___eq__, i_Browser___eq__, (fun_mk (x := "__eq__") (qual := "Browser.__eq__") (st := st_Browser___eq__) l_Browser___eq__ c_Browser___eq__ k_Browser___eq__).binds fun _ _ _ _ _ _ us hl => match us, hl with | [_, _], _ => rfl⟩
      f_Browser___init__ := by
        have FD : FunD K "__init__" "Browser.__init__" (defArgs st_Browser___init__) (defBody st_Browser___init__) (defScope st_Browser___init__) [] [("item", V.int 0)] fBrowser___init__ _ := ⟨⟨_, _, _, _, _, _, _, _, _, _, rfl, l_Browser___init__, c_Browser___init__, .inl ⟨rfl, rfl⟩, .inr ⟨kDBrowser___init__, rfl, fun q hq => by
          rcases List.mem_cons.mp hq with rfl | hq
          · exact ⟨_, q_Browser___init___item, ⟨_, rfl⟩⟩
          · cases hq⟩⟩, k_Browser___init__⟩
        obtain ⟨mv, kb⟩ := FunD.kbinds0 FD 2 ["item"] [] (ps := ["self", "menu", "item"]) (fun us _ ws => us ++ ws) (by simp) (fun q hq => by cases hq) (fun r1 _ r3 => r1.append r3) (fun D doc pm an cdv ct us mv ws h1 h2 h3 => match us, mv, ws, h1, h2, h3 with | [_, _], [], [_], _, _, _ => rfl)
        exact ⟨_, _, fun_mk (x := "__init__") (qual := "Browser.__init__") (st := st_Browser___init__) l_Browser___init__ c_Browser___init__ k_Browser___init__, ⟨C_mk, a_Browser___init__, i_Browser___init__, C_kc⟩, FunD.binds0 FD 2 (by simp) rfl (fun D doc pm an cdv ct us ks h1 h2 => match us, ks, h1, h2 with | [_, _], [_], _, _ => ⟨_, _, _, _, _, _, rfl, rfl, rfl⟩), kb⟩
      f_Browser_anchor := ⟨_, _, fun_mk (x := "anchor") (qual := "Browser.anchor") (st := st_Browser_anchor) l_Browser_anchor c_Browser_anchor k_Browser_anchor, ⟨_, ⟨a_Browser_anchor, g_Browser_anchor, t_Browser_anchor, _, r_Browser_anchor⟩⟩, (fun_mk (x := "anchor") (qual := "Browser.anchor") (st := st_Browser_anchor) l_Browser_anchor c_Browser_anchor k_Browser_anchor).binds fun _ _ _ _ _ _ us hl => match us, hl with | [_], _ => rfl⟩
      f_Browser_choose := ⟨_, _, fun_mk (x := "choose") (qual := "Browser.choose") (st := st_Browser_choose) l_Browser_choose c_Browser_choose k_Browser_choose, ⟨a_Browser_choose, i_Browser_choose, k_Browser_choose⟩⟩
      f_Browser_middle := ⟨_, _, fun_mk (x := "middle") (qual := "Browser.middle") (st := st_Browser_middle) l_Browser_middle c_Browser_middle k_Browser_middle, _, .type "type", ⟨C_rd, C_ga⟩, a_Browser_middle, ⟨_, r_Browser_middle⟩, i_Browser_middle⟩
      f_Browser_page := ⟨_, _, fun_mk (x := "page") (qual := "Browser.page") (st := st_Browser_page) l_Browser_page c_Browser_page k_Browser_page, ⟨_, ⟨a_Browser_page, g_Browser_page, t_Browser_page, _, r_Browser_page⟩⟩, (fun_mk (x := "page") (qual := "Browser.page") (st := st_Browser_page) l_Browser_page c_Browser_page k_Browser_page).binds fun _ _ _ _ _ _ us hl => match us, hl with | [_], _ => rfl⟩
      f_Browser_turn := ⟨_, _, fun_mk (x := "turn") (qual := "Browser.turn") (st := st_Browser_turn) l_Browser_turn c_Browser_turn k_Browser_turn, ⟨a_Browser_turn, i_Browser_turn, k_Browser_turn⟩, (fun_mk (x := "turn") (qual := "Browser.turn") (st := st_Browser_turn) l_Browser_turn c_Browser_turn k_Browser_turn).binds fun _ _ _ _ _ _ us hl => match us, hl with | [_, _], _ => rfl⟩
      f_Browser_undo := ⟨_, _, fun_mk (x := "undo") (qual := "Browser.undo") (st := st_Browser_undo) l_Browser_undo c_Browser_undo k_Browser_undo, ⟨a_Browser_undo, i_Browser_undo, k_Browser_undo⟩, (fun_mk (x := "undo") (qual := "Browser.undo") (st := st_Browser_undo) l_Browser_undo c_Browser_undo k_Browser_undo).binds fun _ _ _ _ _ _ us hl => match us, hl with | [_], _ => rfl⟩
      f_Browser___len__ := ⟨_, _, fun_mk (x := "__len__") (qual := "Browser.__len__") (st := st_Browser___len__) l_Browser___len__ c_Browser___len__ k_Browser___len__, a_Browser___len__, i_Browser___len__, (fun_mk (x := "__len__") (qual := "Browser.__len__") (st := st_Browser___len__) l_Browser___len__ c_Browser___len__ k_Browser___len__).binds fun _ _ _ _ _ _ us hl => match us, hl with | [_], _ => rfl⟩
      f_Browser_size := ⟨_, _, fun_mk (x := "size") (qual := "Browser.size") (st := st_Browser_size) l_Browser_size c_Browser_size k_Browser_size, ⟨_, ⟨a_Browser_size, g_Browser_size, t_Browser_size, _, r_Browser_size⟩⟩, (fun_mk (x := "size") (qual := "Browser.size") (st := st_Browser_size) l_Browser_size c_Browser_size k_Browser_size).binds fun _ _ _ _ _ _ us hl => match us, hl with | [_], _ => rfl⟩
    }⟩
    f_in_range := ⟨_, _, fun_mk (st := st_in_range) l_in_range c_in_range k_in_range, PySem.W.mg_of X G a_in_range, (fun_mk (st := st_in_range) l_in_range c_in_range k_in_range).binds fun _ _ _ _ _ _ us hl => match us, hl with | [_, _, _], _ => rfl⟩
    f_is_kind := ⟨_, _, fun_mk (st := st_is_kind) l_is_kind c_is_kind k_is_kind, PySem.W.mg_of X G a_is_kind, (fun_mk (st := st_is_kind) l_is_kind c_is_kind k_is_kind).binds fun _ _ _ _ _ _ us hl => match us, hl with | [_], _ => rfl⟩
    f_is_menu := ⟨_, _, fun_mk (st := st_is_menu) l_is_menu c_is_menu k_is_menu, PySem.W.mg_of X G a_is_menu, (fun_mk (st := st_is_menu) l_is_menu c_is_menu k_is_menu).binds fun _ _ _ _ _ _ us hl => match us, hl with | [_], _ => rfl⟩
    f_check_menu := ⟨_, _, fun_mk (st := st_check_menu) l_check_menu c_check_menu k_check_menu, PySem.W.mg_of X G a_check_menu, (fun_mk (st := st_check_menu) l_check_menu c_check_menu k_check_menu).binds fun _ _ _ _ _ _ us hl => match us, hl with | [_], _ => rfl⟩
    f_changed := ⟨_, _, fun_mk (st := st_changed) l_changed c_changed k_changed, PySem.W.mg_of X G a_changed, (fun_mk (st := st_changed) l_changed c_changed k_changed).binds fun _ _ _ _ _ _ us hl => match us, hl with | [_, _, _], _ => rfl⟩
    f_kind_on := ⟨_, _, fun_mk (st := st_kind_on) l_kind_on c_kind_on k_kind_on, PySem.W.mg_of X G a_kind_on, (fun_mk (st := st_kind_on) l_kind_on c_kind_on k_kind_on).binds fun _ _ _ _ _ _ us hl => match us, hl with | [_, _], _ => rfl⟩
    f_check_number := ⟨_, _, fun_mk (st := st_check_number) l_check_number c_check_number k_check_number, PySem.W.mg_of X G a_check_number, (fun_mk (st := st_check_number) l_check_number c_check_number k_check_number).binds fun _ _ _ _ _ _ us hl => match us, hl with | [_, _, _], _ => rfl⟩
    f_kind_of := by
      have FD : FunD K "kind_of" "kind_of" (defArgs st_kind_of) (defBody st_kind_of) (defScope st_kind_of) [] [("anchor", V.str "first")] fkind_of _ := ⟨⟨_, _, _, _, _, _, _, _, _, _, rfl, l_kind_of, c_kind_of, .inl ⟨rfl, rfl⟩, .inr ⟨kDkind_of, rfl, fun q hq => by
        rcases List.mem_cons.mp hq with rfl | hq
        · exact ⟨_, q_kind_of_anchor, ⟨_, rfl⟩⟩
        · cases hq⟩⟩, k_kind_of⟩
      obtain ⟨mv, kb⟩ := FunD.kbinds0 FD 1 ["anchor"] [] (ps := ["size", "anchor"]) (fun us _ ws => us ++ ws) (by simp) (fun q hq => by cases hq) (fun r1 _ r3 => r1.append r3) (fun D doc pm an cdv ct us mv ws h1 h2 h3 => match us, mv, ws, h1, h2, h3 with | [_], [], [_], _, _, _ => rfl)
      exact ⟨_, _, fun_mk (st := st_kind_of) l_kind_of c_kind_of k_kind_of, PySem.W.mg_of X G a_kind_of, FunD.binds0 FD 1 (by simp) rfl (fun D doc pm an cdv ct us ks h1 h2 => match us, ks, h1, h2 with | [_], [_], _, _ => ⟨_, _, _, _, _, _, rfl, rfl, rfl⟩), kb⟩
    f_law_well := ⟨_, _, fun_mk (st := st_law_well) l_law_well c_law_well k_law_well, PySem.W.mg_of X G a_law_well, (fun_mk (st := st_law_well) l_law_well c_law_well k_law_well).binds fun _ _ _ _ _ _ us hl => match us, hl with | [_, _], _ => rfl⟩
    f_law_bags := ⟨_, _, fun_mk (st := st_law_bags) l_law_bags c_law_bags k_law_bags, PySem.W.mg_of X G a_law_bags, (fun_mk (st := st_law_bags) l_law_bags c_law_bags k_law_bags).binds fun _ _ _ _ _ _ us hl => match us, hl with | [_, _], _ => rfl⟩
    f_law_take := ⟨_, _, fun_mk (st := st_law_take) l_law_take c_law_take k_law_take, PySem.W.mg_of X G a_law_take, (fun_mk (st := st_law_take) l_law_take c_law_take k_law_take).binds fun _ _ _ _ _ _ us hl => match us, hl with | [_, _], _ => rfl⟩
    f_law_kind := ⟨_, _, fun_mk (st := st_law_kind) l_law_kind c_law_kind k_law_kind, PySem.W.mg_of X G a_law_kind, (fun_mk (st := st_law_kind) l_law_kind c_law_kind k_law_kind).binds fun _ _ _ _ _ _ us hl => match us, hl with | [_, _], _ => rfl⟩
    f_law_menu := ⟨_, _, fun_mk (st := st_law_menu) l_law_menu c_law_menu k_law_menu, PySem.W.mg_of X G a_law_menu, (fun_mk (st := st_law_menu) l_law_menu c_law_menu k_law_menu).binds fun _ _ _ _ _ _ us hl => match us, hl with | [_, _, _], _ => rfl⟩
    f_law_error := ⟨_, _, fun_mk (st := st_law_error) l_law_error c_law_error k_law_error, PySem.W.mg_of X G a_law_error, (fun_mk (st := st_law_error) l_law_error c_law_error k_law_error).binds fun _ _ _ _ _ _ us hl => match us, hl with | [_], _ => rfl⟩
    f_law_outcome := ⟨_, _, fun_mk (st := st_law_outcome) l_law_outcome c_law_outcome k_law_outcome, PySem.W.mg_of X G a_law_outcome, (fun_mk (st := st_law_outcome) l_law_outcome c_law_outcome k_law_outcome).binds fun _ _ _ _ _ _ us hl => match us, hl with | [_], _ => rfl⟩
    f_law_in := ⟨_, _, fun_mk (st := st_law_in) l_law_in c_law_in k_law_in, PySem.W.mg_of X G a_law_in, (fun_mk (st := st_law_in) l_law_in c_law_in k_law_in).binds fun _ _ _ _ _ _ us hl => match us, hl with | [_, _, _], _ => rfl⟩
    f_law_same := ⟨_, _, fun_mk (st := st_law_same) l_law_same c_law_same k_law_same, PySem.W.mg_of X G a_law_same, (fun_mk (st := st_law_same) l_law_same c_law_same k_law_same).binds fun _ _ _ _ _ _ us hl => match us, hl with | [_, _], _ => rfl⟩
    f_law_right := ⟨_, _, fun_mk (st := st_law_right) l_law_right c_law_right k_law_right, PySem.W.mg_of X G a_law_right, (fun_mk (st := st_law_right) l_law_right c_law_right k_law_right).binds fun _ _ _ _ _ _ us hl => match us, hl with | [_, _, _], _ => rfl⟩
    f_law_change := ⟨_, _, fun_mk (st := st_law_change) l_law_change c_law_change k_law_change, PySem.W.mg_of X G a_law_change, (fun_mk (st := st_law_change) l_law_change c_law_change k_law_change).binds fun _ _ _ _ _ _ us hl => match us, hl with | [_, _, _], _ => rfl⟩
    f_law_choose := ⟨_, _, fun_mk (st := st_law_choose) l_law_choose c_law_choose k_law_choose, PySem.W.mg_of X G a_law_choose, (fun_mk (st := st_law_choose) l_law_choose c_law_choose k_law_choose).binds fun _ _ _ _ _ _ us hl => match us, hl with | [_, _], _ => rfl⟩
    f_law_step := ⟨_, _, fun_mk (st := st_law_step) l_law_step c_law_step k_law_step, PySem.W.mg_of X G a_law_step, (fun_mk (st := st_law_step) l_law_step c_law_step k_law_step).binds fun _ _ _ _ _ _ us hl => match us, hl with | [_, _, _, _], _ => rfl, cT_law_step, PT_law_step, t_law_step, PySem.W.law_code X G t_law_step (PySem.W.mg_of X G a_law_step) (X _ _ l_law_step) rfl, hTB ("_law_step", "_law_step.<locals>.<lambda>", cT_law_step, PT_law_step) (by simp)⟩
    f_law := ⟨_, _, fun_mk (st := st_law) l_law c_law k_law, PySem.W.mg_of X G a_law, (fun_mk (st := st_law) l_law c_law k_law).binds fun _ _ _ _ _ _ us hl => match us, hl with | [_], _ => rfl⟩
  }
  exact ok_law T (fun_mk (st := st_law) l_law c_law k_law) ⟨cT_law, PT_law, t_law, PySem.W.law_code X G t_law (PySem.W.mg_of X G a_law) (X _ _ l_law) rfl, hTB ("law", "law.<locals>.<lambda>", cT_law, PT_law) (by simp)⟩
end Law
end DL
open PySem PySem.W PyProof.Rows
set_option maxRecDepth 100000 in
set_option maxHeartbeats 0 in
theorem PySem.Challenge.cw_pageanchors_k20_browsers_step_by_step_holds : PySem.Challenge.rw_pageanchors_k20_browsers_step_by_step.Holds := by
  w_on; o_law; k_head; (case hw => w_witness2)
  k_fill
  refine DL.walk_ofTX (l := PySem.Challenge.rw_pageanchors_k20_browsers_step_by_step) (n := 63) (k := 8) (x := "script") (CX := fun w => L2N.CX PySem.Challenge.rw_pageanchors_k20_browsers_step_by_step.prog w) rfl (by decide) rfl ⟨rfl, by decide, by decide⟩ (fun w h Y => PySem.W.km_in_of Y) ?F (fun _ _ _ _ _ h => DL.cx_false h)
  case F =>
    intro w mg fa h KX G hmg XP TH
    refine' DL.Law.all_mk KX G hmg TH ?C_a ?C_pg ?C_hd ?C_po ?C_sa ?C_mk ?C_kc ?C_n_menu ?C_n_states ?C_ha ?C_hn ?C_ht ?C_hm ?C_kt ?C_nf ?C_rd ?C_ga ?C_fi_MOST ?C_gt_MOST ?C_fc_MOST ?g_InvalidKind ?g_InvalidMenu ?g_InvalidPage ?g_InvalidItem ?g_InvalidNumber ?g_InvalidSeen ?g_NoSize ?g_NothingToUndo ?g_PageError ?ex_InvalidItem ?kp_InvalidItem ?sb_InvalidItem ?ty_InvalidItem ?ex_InvalidKind ?kp_InvalidKind ?sb_InvalidKind ?ty_InvalidKind ?ex_InvalidMenu ?kp_InvalidMenu ?sb_InvalidMenu ?ty_InvalidMenu ?ex_InvalidNumber ?kp_InvalidNumber ?sb_InvalidNumber ?ty_InvalidNumber ?ex_InvalidPage ?kp_InvalidPage ?sb_InvalidPage ?ty_InvalidPage ?ex_NoSize ?kp_NoSize ?sb_NoSize ?ty_NoSize ?ex_NothingToUndo ?kp_NothingToUndo ?sb_NothingToUndo ?ty_NothingToUndo ?ehg_InvalidPage ?ehk_InvalidPage ?ehs_InvalidPage ?ehd_InvalidPage ?eha_InvalidPage ?ehn_InvalidPage ?eht_InvalidPage ?ehm_InvalidPage ?em_InvalidPage ?k_InvalidPage_InvalidKind ?k_InvalidPage_InvalidMenu ?k_InvalidPage_InvalidPage ?k_InvalidPage_InvalidItem ?k_InvalidPage_InvalidNumber ?k_InvalidPage_InvalidSeen ?k_InvalidPage_NoSize ?k_InvalidPage_NothingToUndo ?ehg_NoSize ?ehk_NoSize ?ehs_NoSize ?ehd_NoSize ?eha_NoSize ?ehn_NoSize ?eht_NoSize ?ehm_NoSize ?em_NoSize ?k_NoSize_InvalidKind ?k_NoSize_InvalidMenu ?k_NoSize_InvalidPage ?k_NoSize_InvalidItem ?k_NoSize_InvalidNumber ?k_NoSize_InvalidSeen ?k_NoSize_NoSize ?k_NoSize_NothingToUndo ?ehg_NothingToUndo ?ehk_NothingToUndo ?ehs_NothingToUndo ?ehd_NothingToUndo ?eha_NothingToUndo ?ehn_NothingToUndo ?eht_NothingToUndo ?ehm_NothingToUndo ?em_NothingToUndo ?k_NothingToUndo_InvalidKind ?k_NothingToUndo_InvalidMenu ?k_NothingToUndo_InvalidPage ?k_NothingToUndo_InvalidItem ?k_NothingToUndo_InvalidNumber ?k_NothingToUndo_InvalidSeen ?k_NothingToUndo_NoSize ?k_NothingToUndo_NothingToUndo ?a_in_range ?l_in_range ?c_in_range ?k_in_range ?a_Browser___contains__ ?i_Browser___contains__ ?l_Browser___contains__ ?c_Browser___contains__ ?k_Browser___contains__ ?a_Browser___eq__ ?i_Browser___eq__ ?l_Browser___eq__ ?c_Browser___eq__ ?k_Browser___eq__ ?a_is_kind ?l_is_kind ?c_is_kind ?k_is_kind ?a_is_menu ?l_is_menu ?c_is_menu ?k_is_menu ?a_check_menu ?l_check_menu ?c_check_menu ?k_check_menu ?a_Browser___init__ ?i_Browser___init__ ?l_Browser___init__ ?q_Browser___init___item ?c_Browser___init__ ?k_Browser___init__ ?a_Browser_anchor ?g_Browser_anchor ?t_Browser_anchor ?r_Browser_anchor ?l_Browser_anchor ?c_Browser_anchor ?k_Browser_anchor ?a_changed ?l_changed ?c_changed ?k_changed ?a_kind_on ?l_kind_on ?c_kind_on ?k_kind_on ?a_Browser_choose ?i_Browser_choose ?l_Browser_choose ?c_Browser_choose ?k_Browser_choose ?a_check_number ?l_check_number ?c_check_number ?k_check_number ?a_kind_of ?l_kind_of ?q_kind_of_anchor ?c_kind_of ?k_kind_of ?a_Browser_middle ?r_Browser_middle ?i_Browser_middle ?l_Browser_middle ?c_Browser_middle ?k_Browser_middle ?a_Browser_page ?g_Browser_page ?t_Browser_page ?r_Browser_page ?l_Browser_page ?c_Browser_page ?k_Browser_page ?a_Browser_turn ?i_Browser_turn ?l_Browser_turn ?c_Browser_turn ?k_Browser_turn ?a_Browser_undo ?i_Browser_undo ?l_Browser_undo ?c_Browser_undo ?k_Browser_undo ?a_law_well ?l_law_well ?c_law_well ?k_law_well ?a_law_bags ?l_law_bags ?c_law_bags ?k_law_bags ?a_law_take ?l_law_take ?c_law_take ?k_law_take ?a_law_kind ?l_law_kind ?c_law_kind ?k_law_kind ?a_law_menu ?l_law_menu ?c_law_menu ?k_law_menu ?a_law_error ?l_law_error ?c_law_error ?k_law_error ?a_law_outcome ?l_law_outcome ?c_law_outcome ?k_law_outcome ?a_Browser___len__ ?i_Browser___len__ ?l_Browser___len__ ?c_Browser___len__ ?k_Browser___len__ ?a_Browser_size ?g_Browser_size ?t_Browser_size ?r_Browser_size ?l_Browser_size ?c_Browser_size ?k_Browser_size ?a_law_in ?l_law_in ?c_law_in ?k_law_in ?a_law_same ?l_law_same ?c_law_same ?k_law_same ?a_law_right ?l_law_right ?c_law_right ?k_law_right ?a_law_change ?l_law_change ?c_law_change ?k_law_change ?a_law_choose ?l_law_choose ?c_law_choose ?k_law_choose ?a_law_step ?l_law_step ?c_law_step ?k_law_step ?a_law ?l_law ?c_law ?k_law ?z_all ?z_bool ?z_enumerate ?z_int ?z_isinstance ?z_len ?z_list ?z_max ?z_min ?z_range ?z_sorted ?z_str ?z_tuple ?z_zip ?v_MOST_MENU ?u_MOST_PAGE ?v_MOST_SIZE ?hc_law ?lc_law ?hv_law ?n_law ?r_law ?hc_law_step ?lc_law_step ?hv_law_step ?n_law_step ?r_law_step ?nd_T
    (case C_a => k_is); (case C_pg => k_is); (case C_hd => k_is); (case C_po => k_is); (case C_sa => k_is); (case C_mk => k_is); (case C_kc => k_is); (case C_n_menu => k_is); (case C_n_states => k_is); (case C_ha => k_is); (case C_hn => k_is); (case C_ht => k_is); (case C_hm => k_is); (case C_kt => kernel_rfl); (case C_nf => k_is); (case C_rd => k_is); (case C_ga => k_is); (case C_fi_MOST => k_is); (case C_gt_MOST => k_is); (case C_fc_MOST => k_is); (case g_InvalidKind => k_is); (case g_InvalidMenu => k_is); (case g_InvalidPage => k_is); (case g_InvalidItem => k_is); (case g_InvalidNumber => k_is); (case g_InvalidSeen => k_is); (case g_NoSize => k_is); (case g_NothingToUndo => k_is); (case g_PageError => k_is); (case ex_InvalidItem => kernel_rfl); (case kp_InvalidItem => k_is); (case sb_InvalidItem => k_is); (case ty_InvalidItem => k_is); (case ex_InvalidKind => kernel_rfl); (case kp_InvalidKind => k_is); (case sb_InvalidKind => k_is); (case ty_InvalidKind => k_is); (case ex_InvalidMenu => kernel_rfl); (case kp_InvalidMenu => k_is); (case sb_InvalidMenu => k_is); (case ty_InvalidMenu => k_is); (case ex_InvalidNumber => kernel_rfl); (case kp_InvalidNumber => k_is); (case sb_InvalidNumber => k_is); (case ty_InvalidNumber => k_is); (case ex_InvalidPage => kernel_rfl); (case kp_InvalidPage => k_is); (case sb_InvalidPage => k_is); (case ty_InvalidPage => k_is); (case ex_NoSize => kernel_rfl); (case kp_NoSize => k_is); (case sb_NoSize => k_is); (case ty_NoSize => k_is); (case ex_NothingToUndo => kernel_rfl); (case kp_NothingToUndo => k_is); (case sb_NothingToUndo => k_is); (case ty_NothingToUndo => k_is); (case ehg_InvalidPage => k_is); (case ehk_InvalidPage => k_is); (case ehs_InvalidPage => k_is); (case ehd_InvalidPage => k_is); (case eha_InvalidPage => k_is); (case ehn_InvalidPage => k_is); (case eht_InvalidPage => k_is); (case ehm_InvalidPage => k_is); (case em_InvalidPage => kernel_rfl); (case k_InvalidPage_InvalidKind => kernel_rfl); (case k_InvalidPage_InvalidMenu => kernel_rfl); (case k_InvalidPage_InvalidPage => kernel_rfl); (case k_InvalidPage_InvalidItem => kernel_rfl); (case k_InvalidPage_InvalidNumber => kernel_rfl); (case k_InvalidPage_InvalidSeen => kernel_rfl); (case k_InvalidPage_NoSize => kernel_rfl); (case k_InvalidPage_NothingToUndo => kernel_rfl); (case ehg_NoSize => k_is); (case ehk_NoSize => k_is); (case ehs_NoSize => k_is); (case ehd_NoSize => k_is); (case eha_NoSize => k_is); (case ehn_NoSize => k_is); (case eht_NoSize => k_is); (case ehm_NoSize => k_is); (case em_NoSize => kernel_rfl); (case k_NoSize_InvalidKind => kernel_rfl); (case k_NoSize_InvalidMenu => kernel_rfl); (case k_NoSize_InvalidPage => kernel_rfl); (case k_NoSize_InvalidItem => kernel_rfl); (case k_NoSize_InvalidNumber => kernel_rfl); (case k_NoSize_InvalidSeen => kernel_rfl); (case k_NoSize_NoSize => kernel_rfl); (case k_NoSize_NothingToUndo => kernel_rfl); (case ehg_NothingToUndo => k_is); (case ehk_NothingToUndo => k_is); (case ehs_NothingToUndo => k_is); (case ehd_NothingToUndo => k_is); (case eha_NothingToUndo => k_is); (case ehn_NothingToUndo => k_is); (case eht_NothingToUndo => k_is); (case ehm_NothingToUndo => k_is); (case em_NothingToUndo => kernel_rfl); (case k_NothingToUndo_InvalidKind => kernel_rfl); (case k_NothingToUndo_InvalidMenu => kernel_rfl); (case k_NothingToUndo_InvalidPage => kernel_rfl); (case k_NothingToUndo_InvalidItem => kernel_rfl); (case k_NothingToUndo_InvalidNumber => kernel_rfl); (case k_NothingToUndo_InvalidSeen => kernel_rfl); (case k_NothingToUndo_NoSize => kernel_rfl); (case k_NothingToUndo_NothingToUndo => kernel_rfl); (case a_in_range => k_is); (case l_in_range => k_is); (case c_in_range => k_is); (case k_in_range => k_is); (case a_Browser___contains__ => k_is); (case i_Browser___contains__ => k_is); (case l_Browser___contains__ => k_is); (case c_Browser___contains__ => k_is); (case k_Browser___contains__ => k_is); (case a_Browser___eq__ => k_is); (case i_Browser___eq__ => k_is); (case l_Browser___eq__ => k_is); (case c_Browser___eq__ => k_is); (case k_Browser___eq__ => k_is); (case a_is_kind => k_is); (case l_is_kind => k_is); (case c_is_kind => k_is); (case k_is_kind => k_is); (case a_is_menu => k_is); (case l_is_menu => k_is); (case c_is_menu => k_is); (case k_is_menu => k_is); (case a_check_menu => k_is); (case l_check_menu => k_is); (case c_check_menu => k_is); (case k_check_menu => k_is); (case a_Browser___init__ => k_is); (case i_Browser___init__ => k_is); (case l_Browser___init__ => k_is); (case q_Browser___init___item => k_is); (case c_Browser___init__ => k_is); (case k_Browser___init__ => k_is); (case a_Browser_anchor => k_is); (case g_Browser_anchor => k_is); (case t_Browser_anchor => k_is); (case r_Browser_anchor => k_is); (case l_Browser_anchor => k_is); (case c_Browser_anchor => k_is); (case k_Browser_anchor => k_is); (case a_changed => k_is); (case l_changed => k_is); (case c_changed => k_is); (case k_changed => k_is); (case a_kind_on => k_is); (case l_kind_on => k_is); (case c_kind_on => k_is); (case k_kind_on => k_is); (case a_Browser_choose => k_is); (case i_Browser_choose => k_is); (case l_Browser_choose => k_is); (case c_Browser_choose => k_is); (case k_Browser_choose => k_is); (case a_check_number => k_is); (case l_check_number => k_is); (case c_check_number => k_is); (case k_check_number => k_is); (case a_kind_of => k_is); (case l_kind_of => k_is); (case q_kind_of_anchor => k_is); (case c_kind_of => k_is); (case k_kind_of => k_is); (case a_Browser_middle => k_is); (case r_Browser_middle => k_is); (case i_Browser_middle => k_is); (case l_Browser_middle => k_is); (case c_Browser_middle => k_is); (case k_Browser_middle => k_is); (case a_Browser_page => k_is); (case g_Browser_page => k_is); (case t_Browser_page => k_is); (case r_Browser_page => k_is); (case l_Browser_page => k_is); (case c_Browser_page => k_is); (case k_Browser_page => k_is); (case a_Browser_turn => k_is); (case i_Browser_turn => k_is); (case l_Browser_turn => k_is); (case c_Browser_turn => k_is); (case k_Browser_turn => k_is); (case a_Browser_undo => k_is); (case i_Browser_undo => k_is); (case l_Browser_undo => k_is); (case c_Browser_undo => k_is); (case k_Browser_undo => k_is); (case a_law_well => k_is); (case l_law_well => k_is); (case c_law_well => k_is); (case k_law_well => k_is); (case a_law_bags => k_is); (case l_law_bags => k_is); (case c_law_bags => k_is); (case k_law_bags => k_is); (case a_law_take => k_is); (case l_law_take => k_is); (case c_law_take => k_is); (case k_law_take => k_is); (case a_law_kind => k_is); (case l_law_kind => k_is); (case c_law_kind => k_is); (case k_law_kind => k_is); (case a_law_menu => k_is); (case l_law_menu => k_is); (case c_law_menu => k_is); (case k_law_menu => k_is); (case a_law_error => k_is); (case l_law_error => k_is); (case c_law_error => k_is); (case k_law_error => k_is); (case a_law_outcome => k_is); (case l_law_outcome => k_is); (case c_law_outcome => k_is); (case k_law_outcome => k_is); (case a_Browser___len__ => k_is); (case i_Browser___len__ => k_is); (case l_Browser___len__ => k_is); (case c_Browser___len__ => k_is); (case k_Browser___len__ => k_is); (case a_Browser_size => k_is); (case g_Browser_size => k_is); (case t_Browser_size => k_is); (case r_Browser_size => k_is); (case l_Browser_size => k_is); (case c_Browser_size => k_is); (case k_Browser_size => k_is); (case a_law_in => k_is); (case l_law_in => k_is); (case c_law_in => k_is); (case k_law_in => k_is); (case a_law_same => k_is); (case l_law_same => k_is); (case c_law_same => k_is); (case k_law_same => k_is); (case a_law_right => k_is); (case l_law_right => k_is); (case c_law_right => k_is); (case k_law_right => k_is); (case a_law_change => k_is); (case l_law_change => k_is); (case c_law_change => k_is); (case k_law_change => k_is); (case a_law_choose => k_is); (case l_law_choose => k_is); (case c_law_choose => k_is); (case k_law_choose => k_is); (case a_law_step => k_is); (case l_law_step => k_is); (case c_law_step => k_is); (case k_law_step => k_is); (case a_law => k_is); (case l_law => k_is); (case c_law => k_is); (case k_law => k_is); (case z_all => k_is); (case z_bool => k_is); (case z_enumerate => k_is); (case z_int => k_is); (case z_isinstance => k_is); (case z_len => k_is); (case z_list => k_is); (case z_max => k_is); (case z_min => k_is); (case z_range => k_is); (case z_sorted => k_is); (case z_str => k_is); (case z_tuple => k_is); (case z_zip => k_is); (case v_MOST_MENU => k_is); (case u_MOST_PAGE => refine DL.loose_int XP ?_; first | exact List.Mem.head _ | exact List.Mem.tail _ (List.Mem.head _)); (case v_MOST_SIZE => k_is); (case hc_law => rfl); (case lc_law => k_is); (case hv_law => rfl); (case n_law => kernel_rfl); (case r_law => first | decide +kernel | rfl); (case hc_law_step => rfl); (case lc_law_step => k_is); (case hv_law_step => rfl); (case n_law_step => kernel_rfl); (case r_law_step => first | decide +kernel | rfl); (case nd_T => first | decide +kernel | rfl)
